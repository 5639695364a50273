import PyProof.Rows.All
import Wide.All
import OpenK.AllK
import Wide.FinOn
import KE.KStateDown
import Lean
import HandS.ForMost
import HandS.ForExc
import HandS.Wide
import HandS.Defaults
import HandS.IsInst
import HandS.Deep
import HandS.CallRecv
import HandS.Style
import HandS.TryOnly
import HandS.HeadHook2
import HandS.More
import HandS.SlotsOwn
import HandS.Head2
import HandS.HeadEnd
import PySem.Challenge.RW_sizeladders_k10_whether_two_meet
set_option Elab.async false
set_option linter.all false
set_option maxRecDepth 100000
set_option maxHeartbeats 4000000
/-! Sz A: the domain of values, what stands for them in the abstract heap, the state's relation. -/
namespace Sz
open PySem PySem.Spec L2

/-- a value as a tree -/
inductive D where
  | non | bl (b : Bool) | int (i : Int) | str (s : Str) | ty (n : String)
  | tup (ds : List D) | lst (ds : List D) | obj (c : Nat) (fs : List D)
  | fn (f : Nat) | cls (c : Nat)
  /-- the law's script -/
  | scr (ns : List Int)
/-- what a slot holds -/
inductive S where
  | val (d : D) | cell (k : Nat) | fr (ds : List D)
/-- what a cell of the store holds -/
inductive C where
  | lst (ds : List D) | frz (d : D) | ins (c : Nat) (fs : List (Str × D))
/-- an exception of the program's own -/
inductive Ex where
  | own (c : Nat) (fs : List D)
abbrev En := List (Option S)
abbrev Sto := List C
/-- an expression's run -/
abbrev R := Except Ex S × Sto
abbrev ME := En → Sto → Option R
/-- a statement's -/
inductive Fl where
  | nx | rt (s : S) | bk | ct | ex (x : Ex)
abbrev MS := En → Sto → Option (Fl × En × Sto)

/-- where the text's own things stand -/
structure G where
  K : PySem.W.Frag
  cad : Nat → Addr
  fl : Nat → List Str
  fad : Nat → Addr

mutual
def Rep (g : G) (F : Hp) : D → V → Prop
  | .non, v => v = .non
  | .bl b, v => v = .bl b
  | .int i, v => v = .int i
  | .str s, v => v = .str s
  | .ty n, v => v = .ty n
  | .tup ds, v => ∃ a vs, v = .ref a ∧ SqT g.K F a vs ∧ Reps g F ds vs
  | .lst ds, v => ∃ a vs, v = .ref a ∧ F a = some (.lst vs) ∧ Reps g F ds vs
  | .obj c fs, v => ∃ a dx vs, v = .ref a ∧ F a = some (.ins (g.cad c) dx ((g.fl c).zip vs)) ∧ vs.length = (g.fl c).length ∧ Reps g F fs vs
  | .fn f, v => v = .ref (g.fad f)
  | .cls c, v => v = .ref (g.cad c)
  | .scr ns, v => ∃ a, v = .ref a ∧ SqL g.K F a (ns.map V.int)
def Reps (g : G) (F : Hp) : List D → List V → Prop
  | [], vs => vs = []
  | d :: ds, vs => ∃ v r, vs = v :: r ∧ Rep g F d v ∧ Reps g F ds r
end

theorem seqT_mono {K : PySem.W.Frag} {H H' : Hp} {a : Addr} {xs : List V} (e : Same H H') (h : SqT K H a xs) : SqT K H' a xs := by
  rcases h with (h | ⟨o, h⟩) | h
  · exact .inl (.inl (e _ _ h))
  · exact .inl (.inr ⟨o, e _ _ h⟩)
  · exact .inr h
section
variable {g : G} {F F' : Hp}
mutual
theorem Rep.mono (e : Same F F') : ∀ {d : D} {v : V}, Rep g F d v → Rep g F' d v
  | .non, _, h => h
  | .bl _, _, h => h
  | .int _, _, h => h
  | .str _, _, h => h
  | .ty _, _, h => h
  | .tup ds, v, h => by
    unfold Rep at h ⊢
    obtain ⟨a, vs, e1, e2, e3⟩ := h
    exact ⟨a, vs, e1, seqT_mono e e2, Reps.mono e e3⟩
  | .lst ds, v, h => by
    unfold Rep at h ⊢
    obtain ⟨a, vs, e1, e2, e3⟩ := h
    exact ⟨a, vs, e1, e _ _ e2, Reps.mono e e3⟩
  | .obj c fs, v, h => by
    unfold Rep at h ⊢
    obtain ⟨a, dx, vs, e1, e2, e3, e4⟩ := h
    exact ⟨a, dx, vs, e1, e _ _ e2, e3, Reps.mono e e4⟩
  | .fn _, _, h => h
  | .cls _, _, h => h
  | .scr ns, v, h => by
    unfold Rep at h ⊢
    obtain ⟨a, e1, e2⟩ := h
    exact ⟨a, e1, e.seq e2⟩
theorem Reps.mono (e : Same F F') : ∀ {ds : List D} {vs : List V}, Reps g F ds vs → Reps g F' ds vs
  | [], _, h => h
  | d :: ds, vs, h => by
    unfold Reps at h ⊢
    obtain ⟨v, r, e1, e2, e3⟩ := h
    exact ⟨v, r, e1, Rep.mono e e2, Reps.mono e e3⟩
end
theorem Reps.nil : Reps g F [] [] := by unfold Reps; rfl
theorem Reps.nil_iff {vs : List V} : Reps g F [] vs ↔ vs = [] := by unfold Reps; exact Iff.rfl
theorem Reps.cons_iff {d : D} {ds : List D} {vs : List V} : Reps g F (d :: ds) vs ↔ ∃ v r, vs = v :: r ∧ Rep g F d v ∧ Reps g F ds r := by
  conv => lhs; unfold Reps
theorem Reps.cons {d : D} {ds : List D} {v : V} {vs : List V} (h : Rep g F d v) (t : Reps g F ds vs) : Reps g F (d :: ds) (v :: vs) := Reps.cons_iff.mpr ⟨v, vs, rfl, h, t⟩
theorem Reps.length : ∀ {ds : List D} {vs : List V}, Reps g F ds vs → vs.length = ds.length
  | [], vs, h => by rw [Reps.nil_iff.mp h]; rfl
  | d :: ds, vs, h => by
    obtain ⟨v, r, e, _, t⟩ := Reps.cons_iff.mp h
    rw [e, List.length_cons, List.length_cons, Reps.length t]
theorem Reps.get : ∀ {ds : List D} {vs : List V} {i : Nat} {d : D}, Reps g F ds vs → ds[i]? = some d → ∃ v, vs[i]? = some v ∧ Rep g F d v
  | [], _, _, _, _, e => by simp at e
  | d :: ds, vs, 0, d', h, e => by
    obtain ⟨v, r, e1, e2, t⟩ := Reps.cons_iff.mp h
    simp only [List.getElem?_cons_zero, Option.some.injEq] at e
    subst e
    exact ⟨v, by rw [e1]; rfl, e2⟩
  | d :: ds, vs, i + 1, d', h, e => by
    obtain ⟨v, r, e1, e2, t⟩ := Reps.cons_iff.mp h
    simp only [List.getElem?_cons_succ] at e
    obtain ⟨u, h1, h2⟩ := Reps.get t e
    exact ⟨u, by rw [e1, List.getElem?_cons_succ]; exact h1, h2⟩
theorem Reps.append : ∀ {ds es : List D} {vs us : List V}, Reps g F ds vs → Reps g F es us → Reps g F (ds ++ es) (vs ++ us)
  | [], es, vs, us, h, t => by rw [Reps.nil_iff.mp h]; exact t
  | d :: ds, es, vs, us, h, t => by
    obtain ⟨v, r, e1, e2, e3⟩ := Reps.cons_iff.mp h
    rw [e1]
    exact Reps.cons e2 (Reps.append e3 t)
theorem Reps.set {d : D} {v : V} (hv : Rep g F d v) : ∀ {ds : List D} {vs : List V} (i : Nat), Reps g F ds vs → Reps g F (ds.set i d) (vs.set i v)
  | [], _, _, h => by rw [Reps.nil_iff.mp h]; exact Reps.nil
  | e :: ds, vs, 0, h => by
    obtain ⟨u, r, e1, e2, e3⟩ := Reps.cons_iff.mp h
    rw [e1]; exact Reps.cons hv e3
  | e :: ds, vs, i + 1, h => by
    obtain ⟨u, r, e1, e2, e3⟩ := Reps.cons_iff.mp h
    rw [e1]; exact Reps.cons e2 (Reps.set hv i e3)
theorem Reps.take : ∀ {ds : List D} {vs : List V} (n : Nat), Reps g F ds vs → Reps g F (ds.take n) (vs.take n)
  | _, _, 0, _ => by rw [List.take_zero, List.take_zero]; exact Reps.nil
  | [], _, n + 1, h => by rw [Reps.nil_iff.mp h]; exact Reps.nil
  | e :: ds, vs, n + 1, h => by
    obtain ⟨u, r, e1, e2, e3⟩ := Reps.cons_iff.mp h
    rw [e1]; exact Reps.cons e2 (Reps.take n e3)
theorem Reps.drop : ∀ {ds : List D} {vs : List V} (n : Nat), Reps g F ds vs → Reps g F (ds.drop n) (vs.drop n)
  | _, _, 0, h => by rw [List.drop_zero, List.drop_zero]; exact h
  | [], _, n + 1, h => by rw [Reps.nil_iff.mp h]; exact Reps.nil
  | e :: ds, vs, n + 1, h => by
    obtain ⟨u, r, e1, e2, e3⟩ := Reps.cons_iff.mp h
    rw [e1]; exact Reps.drop n e3
theorem Reps.rep {ds : List D} {vs : List V} (h : Reps g F ds vs) : ∀ k : Nat, Reps g F (List.replicate k ds).flatten (List.replicate k vs).flatten
  | 0 => Reps.nil
  | k + 1 => by
    rw [List.replicate_succ, List.replicate_succ, List.flatten_cons, List.flatten_cons]
    exact h.append (Reps.rep h k)
end

/-! ### the state -/
def CellOk (g : G) (F H : Hp) (a : Addr) : C → Prop
  | .lst ds => F a = none ∧ ∃ vs, H a = some (.lst vs) ∧ Reps g F ds vs
  | .frz d => Rep g F d (.ref a)
  | .ins c fs => F a = none ∧ ∃ dx vs, H a = some (.ins (g.cad c) dx ((fs.map (·.1)).zip vs)) ∧ vs.length = fs.length ∧ Reps g F (fs.map (·.2)) vs
structure SR (g : G) (F : Hp) (as : List Addr) (μ : Sto) (H : Hp) : Prop where
  sub : Same F H
  len : as.length = μ.length
  cells : ∀ (k : Nat) (a : Addr) (c : C), as[k]? = some a → μ[k]? = some c → CellOk g F H a c
  nd : as.Nodup
  live : ∀ a, a ∈ as → ∃ o, H a = some o
/-- the frozen part grows, cells come behind -/
def Ext (F : Hp) (as : List Addr) (F' : Hp) (as' : List Addr) : Prop := Same F F' ∧ ∃ l, as' = as ++ l
theorem Ext.refl {F : Hp} {as : List Addr} : Ext F as F as := ⟨Same.refl _, [], (List.append_nil _).symm⟩
theorem Ext.trans {F F1 F2 : Hp} {as as1 as2 : List Addr} (a : Ext F as F1 as1) (b : Ext F1 as1 F2 as2) : Ext F as F2 as2 := by
  obtain ⟨a1, l, e1⟩ := a
  obtain ⟨b1, m, e2⟩ := b
  exact ⟨a1.trans b1, l ++ m, by rw [e2, e1, List.append_assoc]⟩
/-- what a slot's thing stands for -/
def RS (g : G) (F : Hp) (as : List Addr) : S → V → Prop
  | .val d, v => Rep g F d v
  | .cell k, v => ∃ a, as[k]? = some a ∧ v = .ref a
  | .fr _, _ => False
/-- what an expression's answer stands for -/
def RA (g : G) (F : Hp) (as : List Addr) (H : Hp) : S → V → Prop
  | .fr ds, v => ∃ p vs, v = .ref p ∧ H p = some (.lst vs) ∧ F p = none ∧ p ∉ as ∧ Reps g F ds vs
  | s, v => RS g F as s v
theorem RS.ra {g : G} {F : Hp} {as : List Addr} {H : Hp} {s : S} {v : V} (h : RS g F as s v) : RA g F as H s v := by
  cases s with
  | fr ds => exact (show False from h).elim
  | _ => exact h
theorem RS.mono {g : G} {F F' : Hp} {as as' : List Addr} {s : S} {v : V} (e : Ext F as F' as') (h : RS g F as s v) : RS g F' as' s v := by
  cases s with
  | val d => exact Rep.mono e.1 h
  | cell k =>
    obtain ⟨a, h1, h2⟩ := (show ∃ a, as[k]? = some a ∧ v = .ref a from h)
    obtain ⟨_, l, rfl⟩ := e
    exact ⟨a, by rw [List.getElem?_append_left (List.getElem?_eq_some_iff.mp h1).1]; exact h1, h2⟩
  | fr ds => exact h
/-- the slots -/
structure ER (g : G) (F : Hp) (as : List Addr) (ρ : En) (σ : St) : Prop where
  len : ρ.length ≤ σ.length
  at_ : ∀ (i : Nat) (s : S), ρ[i]? = some (some s) → ∃ v, σ[i]? = some (some v) ∧ RS g F as s v
theorem ER.mono {g : G} {F F' : Hp} {as as' : List Addr} {ρ : En} {σ : St} (e : Ext F as F' as') (h : ER g F as ρ σ) : ER g F' as' ρ σ := ⟨h.len, fun i s q => by
  obtain ⟨v, h1, h2⟩ := h.at_ i s q
  exact ⟨v, h1, h2.mono e⟩⟩
theorem ER.set {g : G} {F : Hp} {as : List Addr} {ρ : En} {σ : St} {i : Nat} {s : S} {v : V} (h : ER g F as ρ σ) (r : RS g F as s v) : ER g F as (ρ.set i (some s)) (σ.set i (some v)) := by
  refine ⟨by rw [List.length_set, List.length_set]; exact h.len, fun j t q => ?_⟩
  by_cases e : j = i
  · subst e
    by_cases hj : j < ρ.length
    · rw [List.getElem?_set_self hj] at q
      cases q
      exact ⟨v, List.getElem?_set_self (Nat.lt_of_lt_of_le hj h.len), r⟩
    · rw [List.getElem?_eq_none (by rw [List.length_set]; omega)] at q
      cases q
  · rw [List.getElem?_set_ne (Ne.symm e)] at q
    rw [List.getElem?_set_ne (Ne.symm e)]
    exact h.at_ j t q

section
variable {g : G} {F H : Hp} {as : List Addr} {μ : Sto} {p : Addr} {o : HO}
theorem upd_none {H : Hp} {p b : Addr} {o : HO} (h : b ≠ p) : upd H p o b = H b := upd_ne h
theorem same_upd {H : Hp} {p : Addr} {o : HO} (h : H p = none) : Same H (upd H p o) := fun b u e => by rw [upd_ne (ne_of_none e h)]; exact e
theorem CellOk.mono {F' H' : Hp} {a : Addr} (e : Same F F') (hF : F a = none → F' a = none) (hH : H' a = H a) : ∀ {c : C}, CellOk g F H a c → CellOk g F' H' a c
  | .lst ds, h => by
    obtain ⟨h0, vs, h1, h2⟩ := h
    exact ⟨hF h0, vs, by rw [hH]; exact h1, h2.mono e⟩
  | .frz d, h => Rep.mono e (show Rep g F d (.ref a) from h)
  | .ins c fs, h => by
    obtain ⟨h0, dx, vs, h1, h2, h3⟩ := h
    exact ⟨hF h0, dx, vs, by rw [hH]; exact h1, h2, h3.mono e⟩
/-- a new object, at once frozen -/
theorem SR.frozen (r : SR g F as μ H) (hp : H p = none) : SR g (upd F p o) as μ (upd H p o) ∧ Ext F as (upd F p o) as ∧ upd F p o p = some o := by
  have fp : F p = none := r.sub.free hp
  have ne : ∀ a, a ∈ as → a ≠ p := fun a ha => by
    obtain ⟨u, e⟩ := r.live a ha
    exact ne_of_none e hp
  have s1 : Same F (upd F p o) := same_upd fp
  refine ⟨⟨fun b u e => ?_, r.len, fun k a c e1 e2 => ?_, r.nd, fun a ha => ?_⟩, ⟨s1, [], (List.append_nil _).symm⟩, upd_same⟩
  · by_cases hb : b = p
    · rw [hb, upd_same] at e; rw [hb, upd_same]; exact e
    · rw [upd_ne hb] at e; rw [upd_ne hb]; exact r.sub _ _ e
  · have na := ne a (List.mem_of_getElem? e1)
    exact (r.cells k a c e1 e2).mono s1 (fun z => by rw [upd_ne na]; exact z) (upd_ne na)
  · rw [upd_ne (ne a ha)]; exact r.live a ha
/-- a new object that nothing holds yet -/
theorem SR.loose (r : SR g F as μ H) (hp : H p = none) : SR g F as μ (upd H p o) ∧ F p = none ∧ p ∉ as := by
  have fp : F p = none := r.sub.free hp
  have ne : ∀ a, a ∈ as → a ≠ p := fun a ha => by
    obtain ⟨u, e⟩ := r.live a ha
    exact ne_of_none e hp
  refine ⟨⟨r.sub.trans (same_upd hp), r.len, fun k a c e1 e2 => ?_, r.nd, fun a ha => ?_⟩, fp, fun hm => ne p hm rfl⟩
  · have na := ne a (List.mem_of_getElem? e1)
    exact (r.cells k a c e1 e2).mono (Same.refl _) (fun z => z) (upd_ne na)
  · rw [upd_ne (ne a ha)]; exact r.live a ha
/-- a loose list is frozen -/
theorem SR.freeze {vs : List V} (r : SR g F as μ H) (hp : H p = some o) (fp : F p = none) (na : p ∉ as) : SR g (upd F p o) as μ H ∧ Ext F as (upd F p o) as ∧ upd F p o p = some o := by
  have ne : ∀ a, a ∈ as → a ≠ p := fun a ha e => na (e ▸ ha)
  have s1 : Same F (upd F p o) := same_upd fp
  refine ⟨⟨fun b u e => ?_, r.len, fun k a c e1 e2 => ?_, r.nd, r.live⟩, ⟨s1, [], (List.append_nil _).symm⟩, upd_same⟩
  · by_cases hb : b = p
    · rw [hb, upd_same] at e; rw [hb, ← e]; exact hp
    · rw [upd_ne hb] at e; exact r.sub _ _ e
  · have na := ne a (List.mem_of_getElem? e1)
    exact (r.cells k a c e1 e2).mono s1 (fun z => by rw [upd_ne na]; exact z) rfl
/-- a loose object becomes a cell -/
theorem SR.push {c : C} (r : SR g F as μ H) (hp : H p = some o) (na : p ∉ as) (hc : CellOk g F H p c) : SR g F (as ++ [p]) (μ ++ [c]) H ∧ Ext F as F (as ++ [p]) := by
  refine ⟨⟨r.sub, by rw [List.length_append, List.length_append, r.len]; rfl, fun k a c' e1 e2 => ?_, ?_, fun a ha => ?_⟩, Same.refl _, [p], rfl⟩
  · by_cases hk : k < as.length
    · rw [List.getElem?_append_left hk] at e1
      rw [List.getElem?_append_left (by rw [← r.len]; exact hk)] at e2
      exact r.cells k a c' e1 e2
    · rw [List.getElem?_append_right (by omega)] at e1
      rw [List.getElem?_append_right (by have := r.len; omega)] at e2
      rw [r.len] at e1
      cases hz : k - μ.length with
      | zero =>
        rw [hz] at e1 e2
        simp only [List.getElem?_cons_zero, Option.some.injEq] at e1 e2
        subst e1 e2
        exact hc
      | succ n => rw [hz] at e1; simp at e1
  · rw [List.nodup_append]
    exact ⟨r.nd, by simp, fun a ha b hb => by
      have : b = p := by simpa using hb
      subst this
      exact fun e => na (e ▸ ha)⟩
  · rcases List.mem_append.mp ha with h | h
    · exact r.live a h
    · have : a = p := by simpa using h
      subst this
      exact ⟨o, hp⟩
theorem nd_at {as : List Addr} (nd : as.Nodup) {i j : Nat} {a : Addr} (hi : as[i]? = some a) (hj : as[j]? = some a) : i = j := by
  obtain ⟨h1, e1⟩ := List.getElem?_eq_some_iff.mp hi
  obtain ⟨h2, e2⟩ := List.getElem?_eq_some_iff.mp hj
  exact (List.getElem_inj nd).mp (e1.trans e2.symm)
/-- a cell's object changed -/
theorem SR.write {k : Nat} {a : Addr} {c : C} (r : SR g F as μ H) (ha : as[k]? = some a) (fa : F a = none) (hc : CellOk g F (upd H a o) a c) : SR g F as (μ.set k c) (upd H a o) := by
  refine ⟨fun b u e => ?_, by rw [List.length_set]; exact r.len, fun j b c' e1 e2 => ?_, r.nd, fun b hb => ?_⟩
  · have nb : b ≠ a := fun z => by rw [z, fa] at e; cases e
    rw [upd_ne nb]; exact r.sub _ _ e
  · by_cases hj : j = k
    · subst hj
      rw [ha] at e1
      have hl : j < μ.length := by rw [← r.len]; exact (List.getElem?_eq_some_iff.mp ha).1
      rw [List.getElem?_set_self hl] at e2
      cases e1; cases e2
      exact hc
    · rw [List.getElem?_set_ne (Ne.symm hj)] at e2
      have nb : b ≠ a := fun z => hj (nd_at r.nd e1 (z ▸ ha))
      exact (r.cells j b c' e1 e2).mono (Same.refl _) (fun z => z) (upd_ne nb)
  · by_cases z : b = a
    · subst z; exact ⟨o, upd_same⟩
    · rw [upd_ne z]; exact r.live b hb
/-- a list cell is frozen where it stands -/
theorem SR.still {k : Nat} {a : Addr} {d : D} (r : SR g F as μ H) (ha : as[k]? = some a) (hp : H a = some o) (fa : F a = none) (hd : Rep g (upd F a o) d (.ref a)) : SR g (upd F a o) as (μ.set k (.frz d)) H ∧ Ext F as (upd F a o) as := by
  have s1 : Same F (upd F a o) := same_upd fa
  refine ⟨⟨fun b u e => ?_, by rw [List.length_set]; exact r.len, fun j b c' e1 e2 => ?_, r.nd, r.live⟩, s1, [], (List.append_nil _).symm⟩
  · by_cases hb : b = a
    · rw [hb, upd_same] at e; rw [hb, ← e]; exact hp
    · rw [upd_ne hb] at e; exact r.sub _ _ e
  · by_cases hj : j = k
    · subst hj
      rw [ha] at e1
      have hl : j < μ.length := by rw [← r.len]; exact (List.getElem?_eq_some_iff.mp ha).1
      rw [List.getElem?_set_self hl] at e2
      cases e1; cases e2
      exact hd
    · rw [List.getElem?_set_ne (Ne.symm hj)] at e2
      have nb : b ≠ a := fun z => hj (nd_at r.nd e1 (z ▸ ha))
      exact (r.cells j b c' e1 e2).mono s1 (fun z => by rw [upd_ne nb]; exact z) rfl
/-- the store cut back -/
theorem SR.cut (r : SR g F as μ H) (n : Nat) : SR g F (as.take n) (μ.take n) H := by
  refine ⟨r.sub, by rw [List.length_take, List.length_take, r.len], fun k a c e1 e2 => ?_, r.nd.sublist (List.take_sublist _ _), fun a ha => r.live a (List.mem_of_mem_take ha)⟩
  have hk : k < n := by
    by_cases h : k < n
    · exact h
    · rw [List.getElem?_take_eq_none (by omega)] at e1; cases e1
  rw [List.getElem?_take_of_lt hk] at e1 e2
  exact r.cells k a c e1 e2
end
end Sz

set_option Elab.async false
set_option linter.all false
set_option maxRecDepth 100000
set_option maxHeartbeats 4000000
/-! Sz B: judgements. -/
namespace Sz
open PySem PySem.Spec L2

section
variable (X : Cx)
abbrev wpE (e : Expr) : TE := fun σ H Q => ∀ (pins : List (Addr × Obj)) (s : Shared), Inv X pins σ H s → wpAny (model X.prog X.w) X.A (eval e X.env) (EP X pins σ Q) X.xe s
abbrev wpT (e : Expr) : TT := fun σ H Q => ∀ (pins : List (Addr × Obj)) (s : Shared), Inv X pins σ H s → wpAny (model X.prog X.w) X.A (isTrue e X.env (eval e X.env)) (TP X pins σ Q) X.xe s
abbrev wpW (e : Expr) : TT := fun σ H Q => ∀ (whole : Sem Value) (pins : List (Addr × Obj)) (s : Shared), Inv X pins σ H s → wpAny (model X.prog X.w) X.A (isTrue e X.env whole) (TP X pins σ Q) X.xe s
abbrev wpA (es : List Expr) : TA := fun σ H Q => ∀ (pos : Pos) (pins : List (Addr × Obj)) (s : Shared), Inv X pins σ H s → wpAny (model X.prog X.w) X.A (spliced (backTo pos (starEach es X.env))) (AP X pins σ Q) X.xe s
abbrev wpK (ks : List Keyword) : TA := fun σ H Q => ∀ (pos : Pos) (pins : List (Addr × Obj)) (s : Shared), Inv X pins σ H s → wpAny (model X.prog X.w) X.A (evalAll ((backToKw pos (keywordEach ks X.env)).map (·.2))) (AP X pins σ Q) X.xe s
abbrev wpS (st : Stmt) : TS := fun D σ H => ∀ (pins : List (Addr × Obj)) (s : Shared), Inv X pins σ H s → wpAny (model X.prog X.w) X.A (exec st X.env) (SP X pins D) X.xe s
abbrev wpB (st : List Stmt) : TS := fun D σ H => ∀ (pins : List (Addr × Obj)) (s : Shared), Inv X pins σ H s → wpAny (model X.prog X.w) X.A (execs st X.env) (SP X pins D) X.xe s
end
section
variable {X : Cx} {e : Expr} {es : List Expr} {ks : List Keyword} {st : Stmt} {sts : List Stmt} {σ : L2.St} {H : Hp} {Q : VK}
theorem pe_wp : PE X e (wpE X e) := ⟨fun pins s _ _ _ I h => h pins s I⟩
theorem pt_wp : PT X e (wpT X e) := ⟨fun pins s _ _ _ I h => h pins s I⟩
theorem pw_wp : PW X e (wpW X e) := ⟨fun wh pins s _ _ _ I h => h wh pins s I⟩
theorem pa_wp : PA X es (wpA X es) := ⟨fun pos pins s _ _ _ I h => h pos pins s I⟩
theorem pk_wp : PK X ks (wpK X ks) := ⟨fun pos pins s _ _ _ I h => h pos pins s I⟩
theorem ps_wp : PS X st (wpS X st) := ⟨fun pins s _ _ _ I h => h pins s I⟩
theorem pss_wp : PSs X sts (wpB X sts) := ⟨fun pins s _ _ _ I h => h pins s I⟩
theorem wE {t : TE} (h : PE X e t) (q : t σ H Q) : wpE X e σ H Q := fun pins s I => h.run pins s σ H Q I q
theorem wT {t : TT} {Q : Bool → Hp → Prop} (h : PT X e t) (q : t σ H Q) : wpT X e σ H Q := fun pins s I => h.run pins s σ H Q I q
theorem wW {t : TT} {Q : Bool → Hp → Prop} (h : PW X e t) (q : t σ H Q) : wpW X e σ H Q := fun wh pins s I => h.run wh pins s σ H Q I q
theorem wA {t : TA} {Q : List V → Hp → Prop} (h : PA X es t) (q : t σ H Q) : wpA X es σ H Q := fun pos pins s I => h.run pos pins s σ H Q I q
theorem wK {t : TA} {Q : List V → Hp → Prop} (h : PK X ks t) (q : t σ H Q) : wpK X ks σ H Q := fun pos pins s I => h.run pos pins s σ H Q I q
theorem wS {t : TS} {D : Ends} (h : PS X st t) (q : t D σ H) : wpS X st D σ H := fun pins s I => h.run pins s σ H D I q
theorem wB {t : TS} {D : Ends} (h : PSs X sts t) (q : t D σ H) : wpB X sts D σ H := fun pins s I => h.run pins s σ H D I q
theorem wpE_mono {Q Q' : VK} (h : wpE X e σ H Q) (i : ∀ v H', Q v H' → Q' v H') : wpE X e σ H Q' := fun pins s I => thn (h pins s I) fun u s' ⟨v, H', I', r, q⟩ => ⟨v, H', I', r, i v H' q⟩
end

/-- what an exception stands for -/
def RX (g : G) (F H : Hp) : Ex → Value → Option Addr → Prop
  | .own c fs, cls, d => cls = .ref (g.cad c) ∧ ((fs = [] ∧ d = none) ∨ ∃ a vs, d = some a ∧ H a = some (.xd ((g.fl c).zip vs)) ∧ vs.length = (g.fl c).length ∧ Reps g F fs vs)
/-- what is wanted of an exception -/
def PErr (g : G) (W : WX) (F : Hp) (as : List Addr) (σ : L2.St) (x : Ex) (μ' : Sto) : Prop :=
  ∀ F' as' cls d H', Ext F as F' as' → SR g F' as' μ' H' → RX g F' H' x cls d → W cls d σ H'
def PostE (g : G) (W : WX) (F : Hp) (as : List Addr) (σ : L2.St) (Q : VK) : Except Ex S → Sto → Prop
  | .ok s, μ' => ∀ F' as' v H', Ext F as F' as' → SR g F' as' μ' H' → RA g F' as' H' s v → Q v H'
  | .error x, μ' => PErr g W F as σ x μ'
def PostT (g : G) (W : WX) (F : Hp) (as : List Addr) (σ : L2.St) (Q : Bool → Hp → Prop) : Except Ex Bool → Sto → Prop
  | .ok b, μ' => ∀ F' as' H', Ext F as F' as' → SR g F' as' μ' H' → Q b H'
  | .error x, μ' => PErr g W F as σ x μ'
def RSs (g : G) (F : Hp) (as : List Addr) (ss : List S) (vs : List V) : Prop := Paired (RS g F as) ss vs
def PostA (g : G) (W : WX) (F : Hp) (as : List Addr) (σ : L2.St) (Q : List V → Hp → Prop) : Except Ex (List S) → Sto → Prop
  | .ok ss, μ' => ∀ F' as' vs H', Ext F as F' as' → SR g F' as' μ' H' → RSs g F' as' ss vs → Q vs H'
  | .error x, μ' => PErr g W F as σ x μ'
theorem PErr.ext {g : G} {W : WX} {F F1 : Hp} {as as1 : List Addr} {σ : L2.St} {x : Ex} {μ : Sto} (e : Ext F as F1 as1) (h : PErr g W F as σ x μ) : PErr g W F1 as1 σ x μ :=
  fun F' as' cls d H' e' r q => h F' as' cls d H' (e.trans e') r q
theorem RSs.mono {g : G} {F F' : Hp} {as as' : List Addr} {ss : List S} {vs : List V} (e : Ext F as F' as') (h : RSs g F as ss vs) : RSs g F' as' ss vs := Paired.mapP h fun _ _ r => r.mono e

/-- a run of the shallow code: tests, argument lists -/
abbrev MT := En → Sto → Option (Except Ex Bool × Sto)
abbrev MA := En → Sto → Option (Except Ex (List S) × Sto)
structure SE (g : G) (X : Cx) (W : WX) (e : Expr) (m : ME) : Prop where
  run : ∀ (F : Hp) (as : List Addr) (ρ : En) (μ : Sto) (σ : L2.St) (H : Hp) (Q : VK) (r : Except Ex S) (μ' : Sto), m ρ μ = some (r, μ') → SR g F as μ H → ER g F as ρ σ → PostE g W F as σ Q r μ' → wpE X e σ H Q
structure STe (g : G) (X : Cx) (W : WX) (e : Expr) (m : MT) : Prop where
  run : ∀ (F : Hp) (as : List Addr) (ρ : En) (μ : Sto) (σ : L2.St) (H : Hp) (Q : Bool → Hp → Prop) (r : Except Ex Bool) (μ' : Sto), m ρ μ = some (r, μ') → SR g F as μ H → ER g F as ρ σ → PostT g W F as σ Q r μ' → wpT X e σ H Q
structure SW (g : G) (X : Cx) (W : WX) (e : Expr) (m : MT) : Prop where
  run : ∀ (F : Hp) (as : List Addr) (ρ : En) (μ : Sto) (σ : L2.St) (H : Hp) (Q : Bool → Hp → Prop) (r : Except Ex Bool) (μ' : Sto), m ρ μ = some (r, μ') → SR g F as μ H → ER g F as ρ σ → PostT g W F as σ Q r μ' → wpW X e σ H Q
structure SA (g : G) (X : Cx) (W : WX) (es : List Expr) (m : MA) : Prop where
  run : ∀ (F : Hp) (as : List Addr) (ρ : En) (μ : Sto) (σ : L2.St) (H : Hp) (Q : List V → Hp → Prop) (r : Except Ex (List S)) (μ' : Sto), m ρ μ = some (r, μ') → SR g F as μ H → ER g F as ρ σ → PostA g W F as σ Q r μ' → wpA X es σ H Q
structure SK (g : G) (X : Cx) (W : WX) (ks : List Keyword) (m : MA) : Prop where
  run : ∀ (F : Hp) (as : List Addr) (ρ : En) (μ : Sto) (σ : L2.St) (H : Hp) (Q : List V → Hp → Prop) (r : Except Ex (List S)) (μ' : Sto), m ρ μ = some (r, μ') → SR g F as μ H → ER g F as ρ σ → PostA g W F as σ Q r μ' → wpK X ks σ H Q

/-- one run behind another -/
def andThen {α β : Type} (r : Option (Except Ex α × Sto)) (f : α → Sto → Option (Except Ex β × Sto)) : Option (Except Ex β × Sto) :=
  match r with
  | none => none
  | some (.error x, μ) => some (.error x, μ)
  | some (.ok s, μ) => f s μ
theorem andThen_some {α β : Type} {r : Option (Except Ex α × Sto)} {f : α → Sto → Option (Except Ex β × Sto)} {q : Except Ex β × Sto} (h : andThen r f = some q) :
    (∃ x, r = some (.error x, q.2) ∧ q.1 = .error x) ∨ ∃ s μ, r = some (.ok s, μ) ∧ f s μ = some q := by
  unfold andThen at h
  match r, h with
  | none, h => cases h
  | some (.error x, μ), h =>
    cases h
    exact .inl ⟨x, rfl, rfl⟩
  | some (.ok s, μ), h => exact .inr ⟨s, μ, rfl, h⟩

section
variable {g : G} {X : Cx} {W : WX} {e : Expr} {m : ME} {F : Hp} {as : List Addr} {ρ : En} {μ : Sto} {σ : L2.St} {H : Hp} {β : Type}
/-- an expression, then what follows -/
theorem SE.then_ {Q : VK} {f : S → Sto → Option (Except Ex β × Sto)} {r : Except Ex β} {μ' : Sto} (he : SE g X W e m) (h : andThen (m ρ μ) f = some (r, μ')) (sr : SR g F as μ H) (er : ER g F as ρ σ)
    (hx : ∀ x, r = .error x → PErr g W F as σ x μ')
    (k : ∀ s μ1 F1 as1 v H1, f s μ1 = some (r, μ') → Ext F as F1 as1 → SR g F1 as1 μ1 H1 → ER g F1 as1 ρ σ → RA g F1 as1 H1 s v → Q v H1) : wpE X e σ H Q := by
  rcases andThen_some h with ⟨x, h1, h2⟩ | ⟨s, μ1, h1, h2⟩
  · exact he.run F as ρ μ σ H Q (.error x) μ' h1 sr er (hx x h2)
  · exact he.run F as ρ μ σ H Q (.ok s) μ1 h1 sr er fun F' as' v H' e' r' q => k s μ1 F' as' v H' h2 e' r' (er.mono e') q
theorem STe.then_ {e : Expr} {m : MT} {Q : Bool → Hp → Prop} {f : Bool → Sto → Option (Except Ex β × Sto)} {r : Except Ex β} {μ' : Sto} (he : STe g X W e m) (h : andThen (m ρ μ) f = some (r, μ')) (sr : SR g F as μ H) (er : ER g F as ρ σ)
    (hx : ∀ x, r = .error x → PErr g W F as σ x μ')
    (k : ∀ b μ1 F1 as1 H1, f b μ1 = some (r, μ') → Ext F as F1 as1 → SR g F1 as1 μ1 H1 → ER g F1 as1 ρ σ → Q b H1) : wpT X e σ H Q := by
  rcases andThen_some h with ⟨x, h1, h2⟩ | ⟨s, μ1, h1, h2⟩
  · exact he.run F as ρ μ σ H Q (.error x) μ' h1 sr er (hx x h2)
  · exact he.run F as ρ μ σ H Q (.ok s) μ1 h1 sr er fun F' as' H' e' r' => k s μ1 F' as' H' h2 e' r' (er.mono e')
theorem SA.then_ {es : List Expr} {m : MA} {Q : List V → Hp → Prop} {f : List S → Sto → Option (Except Ex β × Sto)} {r : Except Ex β} {μ' : Sto} (he : SA g X W es m) (h : andThen (m ρ μ) f = some (r, μ')) (sr : SR g F as μ H) (er : ER g F as ρ σ)
    (hx : ∀ x, r = .error x → PErr g W F as σ x μ')
    (k : ∀ ss μ1 F1 as1 vs H1, f ss μ1 = some (r, μ') → Ext F as F1 as1 → SR g F1 as1 μ1 H1 → ER g F1 as1 ρ σ → RSs g F1 as1 ss vs → Q vs H1) : wpA X es σ H Q := by
  rcases andThen_some h with ⟨x, h1, h2⟩ | ⟨s, μ1, h1, h2⟩
  · exact he.run F as ρ μ σ H Q (.error x) μ' h1 sr er (hx x h2)
  · exact he.run F as ρ μ σ H Q (.ok s) μ1 h1 sr er fun F' as' v H' e' r' q => k s μ1 F' as' v H' h2 e' r' (er.mono e') q
theorem SK.then_ {es : List Keyword} {m : MA} {Q : List V → Hp → Prop} {f : List S → Sto → Option (Except Ex β × Sto)} {r : Except Ex β} {μ' : Sto} (he : SK g X W es m) (h : andThen (m ρ μ) f = some (r, μ')) (sr : SR g F as μ H) (er : ER g F as ρ σ)
    (hx : ∀ x, r = .error x → PErr g W F as σ x μ')
    (k : ∀ ss μ1 F1 as1 vs H1, f ss μ1 = some (r, μ') → Ext F as F1 as1 → SR g F1 as1 μ1 H1 → ER g F1 as1 ρ σ → RSs g F1 as1 ss vs → Q vs H1) : wpK X es σ H Q := by
  rcases andThen_some h with ⟨x, h1, h2⟩ | ⟨s, μ1, h1, h2⟩
  · exact he.run F as ρ μ σ H Q (.error x) μ' h1 sr er (hx x h2)
  · exact he.run F as ρ μ σ H Q (.ok s) μ1 h1 sr er fun F' as' v H' e' r' q => k s μ1 F' as' v H' h2 e' r' (er.mono e') q
end

/-! ### rooting and viewing -/
def rt : S → S
  | .fr ds => .val (.lst ds)
  | s => s
def vw (μ : Sto) : S → Option D
  | .val d => some d
  | .fr ds => some (.lst ds)
  | .cell k => match μ[k]? with
    | some (.lst ds) => some (.lst ds)
    | some (.frz d) => some d
    | _ => none
/-- a value as it stands now: a list at the top may still be changed later -/
def VR (g : G) (F H : Hp) (d : D) (v : V) : Prop := (∃ ds a vs, d = .lst ds ∧ v = .ref a ∧ H a = some (.lst vs) ∧ Reps g F ds vs) ∨ Rep g F d v
section
variable {g : G} {F H : Hp} {as : List Addr} {μ : Sto} {s : S} {v : V} {d : D}
theorem root_ok (sr : SR g F as μ H) (h : RA g F as H s v) : ∃ F', Ext F as F' as ∧ SR g F' as μ H ∧ RS g F' as (rt s) v := by
  cases s with
  | val d => exact ⟨F, .refl, sr, h⟩
  | cell k => exact ⟨F, .refl, sr, h⟩
  | fr ds =>
    obtain ⟨p, vs, e1, e2, e3, e4, e5⟩ := (show ∃ p vs, v = .ref p ∧ H p = some (.lst vs) ∧ F p = none ∧ p ∉ as ∧ Reps g F ds vs from h)
    obtain ⟨r, x, y⟩ := sr.freeze (vs := vs) e2 e3 e4
    refine ⟨_, x, r, ?_⟩
    show Rep g _ (.lst ds) v
    unfold Rep
    exact ⟨p, vs, e1, y, e5.mono x.1⟩
theorem view_rs (sr : SR g F as μ H) (h : RS g F as s v) (e : vw μ s = some d) : VR g F H d v := by
  cases s with
  | val d' =>
    cases e
    exact .inr h
  | fr ds => exact (show False from h).elim
  | cell k =>
    obtain ⟨a, h1, h2⟩ := (show ∃ a, as[k]? = some a ∧ v = .ref a from h)
    unfold vw at e
    simp only at e
    cases q : μ[k]? with
    | none => rw [q] at e; cases e
    | some c =>
      rw [q] at e
      have ok := sr.cells k a c h1 q
      cases c with
      | lst ds =>
        cases e
        obtain ⟨_, vs, e1, e2⟩ := ok
        exact .inl ⟨ds, a, vs, rfl, h2, e1, e2⟩
      | frz d' =>
        cases e
        subst h2
        exact .inr ok
      | ins c fs => cases e
theorem view_ra (sr : SR g F as μ H) (h : RA g F as H s v) (e : vw μ s = some d) : VR g F H d v := by
  cases s with
  | val d' => exact view_rs (s := .val d') sr h e
  | cell k => exact view_rs (s := .cell k) sr h e
  | fr ds =>
    obtain ⟨p, vs, e1, e2, e3, e4, e5⟩ := (show ∃ p vs, v = .ref p ∧ H p = some (.lst vs) ∧ F p = none ∧ p ∉ as ∧ Reps g F ds vs from h)
    cases e
    exact .inl ⟨ds, p, vs, rfl, e1, e2, e5⟩
/-- a slot's thing as a tree: a cell's list is frozen there -/
def toD (μ : Sto) : S → Option (D × Sto)
  | .val d => some (d, μ)
  | .fr ds => some (.lst ds, μ)
  | .cell k => match μ[k]? with
    | some (.lst ds) => some (.lst ds, μ.set k (.frz (.lst ds)))
    | some (.frz d) => some (d, μ)
    | _ => none
theorem toD_rs {μ' : Sto} (sr : SR g F as μ H) (h : RS g F as s v) (e : toD μ s = some (d, μ')) : ∃ F', Ext F as F' as ∧ SR g F' as μ' H ∧ Rep g F' d v := by
  cases s with
  | val d' =>
    cases e
    exact ⟨F, .refl, sr, h⟩
  | fr ds => exact (show False from h).elim
  | cell k =>
    obtain ⟨a, h1, h2⟩ := (show ∃ a, as[k]? = some a ∧ v = .ref a from h)
    unfold toD at e
    simp only at e
    cases q : μ[k]? with
    | none => rw [q] at e; cases e
    | some c =>
      rw [q] at e
      have ok := sr.cells k a c h1 q
      cases c with
      | lst ds =>
        cases e
        obtain ⟨e0, vs, e1, e2⟩ := ok
        have hr : Rep g (upd F a (.lst vs)) (.lst ds) (.ref a) := by
          unfold Rep
          exact ⟨a, vs, rfl, upd_same, e2.mono (same_upd e0)⟩
        obtain ⟨r, x⟩ := sr.still h1 e1 e0 hr
        exact ⟨_, x, r, by rw [h2]; exact hr⟩
      | frz d' =>
        cases e
        subst h2
        exact ⟨F, .refl, sr, ok⟩
      | ins c fs => cases e
/-- several -/
def toDs (μ : Sto) : List S → Option (List D × Sto)
  | [] => some ([], μ)
  | s :: ss => match toD μ s with
    | none => none
    | some (d, μ1) => match toDs μ1 ss with
      | none => none
      | some (ds, μ2) => some (d :: ds, μ2)
theorem toDs_rs : ∀ {ss : List S} {vs : List V} {F : Hp} {μ μ' : Sto} {ds : List D}, SR g F as μ H → RSs g F as ss vs → toDs μ ss = some (ds, μ') → ∃ F', Ext F as F' as ∧ SR g F' as μ' H ∧ Reps g F' ds vs
  | [], _, F, μ, μ', ds, sr, h, e => by
    cases h
    cases e
    exact ⟨F, .refl, sr, Reps.nil⟩
  | s :: ss, vs, F, μ, μ', ds, sr, h, e => by
    cases h with
    | cons h t =>
      unfold toDs at e
      cases q : toD μ s with
      | none => rw [q] at e; cases e
      | some p =>
        obtain ⟨d, μ1⟩ := p
        rw [q] at e
        simp only at e
        obtain ⟨F1, x1, sr1, r1⟩ := toD_rs sr h q
        cases q2 : toDs μ1 ss with
        | none => rw [q2] at e; cases e
        | some p =>
          obtain ⟨ds', μ2⟩ := p
          rw [q2] at e
          cases e
          obtain ⟨F2, x2, sr2, r2⟩ := toDs_rs sr1 (RSs.mono x1 t) q2
          exact ⟨F2, x1.trans x2, sr2, Reps.cons (Rep.mono x2.1 r1) r2⟩
def vws (μ : Sto) : List S → Option (List D)
  | [] => some []
  | s :: ss => match vw μ s, vws μ ss with
    | some d, some ds => some (d :: ds)
    | _, _ => none
def VRs (g : G) (F H : Hp) (ds : List D) (vs : List V) : Prop := Paired (VR g F H) ds vs
theorem views_rs (sr : SR g F as μ H) : ∀ {ss : List S} {vs : List V} {ds : List D}, RSs g F as ss vs → vws μ ss = some ds → VRs g F H ds vs
  | [], _, _, h, e => by
    cases h
    cases e
    exact .nil
  | s :: ss, _, ds, .cons h t, e => by
    unfold vws at e
    cases q : vw μ s with
    | none => rw [q] at e; simp at e
    | some d =>
      cases q2 : vws μ ss with
      | none => rw [q, q2] at e; simp at e
      | some ds' =>
        rw [q, q2] at e
        simp only [Option.some.injEq] at e
        subst e
        exact .cons (view_rs sr h q) (views_rs sr t q2)
end
end Sz

set_option Elab.async false
set_option linter.all false
set_option maxRecDepth 100000
set_option maxHeartbeats 4000000
/-! Sz C: expressions: names, constants, operators, comparisons, tests, displays, places, attributes. -/
namespace Sz
open PySem PySem.Spec L2

/-! ### names, constants -/
def mVar (i : Nat) : ME := fun ρ μ => match ρ[i]? with
  | some (some s) => some (.ok s, μ)
  | _ => none
def mK (d : D) : ME := fun _ μ => some (.ok (.val d), μ)
section
variable {g : G} {X : Cx} {W : WX} {pos : Pos}
theorem se_var {i : Nat} {x : Str} (hN : X.N[i]? = some x) (hv : Vis X.env.scope x) (hd : (x == ("__debug__" : Str)) = false) (hcd : (x == ("__classdict__" : Str)) = false) : SE g X W (.Name x pos) (mVar i) := by
  refine ⟨fun F as ρ μ σ H Q r μ' h sr er post => ?_⟩
  unfold mVar at h
  split at h
  · rename_i s q
    cases h
    obtain ⟨v, e1, e2⟩ := er.at_ i s q
    exact wE (pe_var hN hv hd hcd) ⟨v, e1, post F as v H .refl sr e2.ra⟩
  · cases h
theorem se_k {e : Expr} {d : D} {v : V} (he : PE X e (tC v)) (rep : ∀ F, Rep g F d v) : SE g X W e (mK d) := by
  refine ⟨fun F as ρ μ σ H Q r μ' h sr er post => ?_⟩
  cases h
  exact wE he (post F as v H .refl sr (rep F))
theorem se_int {i : Int} {k : Nat} : SE g X W (.Constant (.int i) k pos) (mK (.int i)) := se_k pe_int fun F => by unfold Rep; rfl
theorem se_bl {b : Bool} {k : Nat} : SE g X W (.Constant (.bool b) k pos) (mK (.bl b)) := se_k pe_bl fun F => by unfold Rep; rfl
theorem se_non {k : Nat} : SE g X W (.Constant .none k pos) (mK .non) := se_k pe_non fun F => by unfold Rep; rfl
theorem se_str {x : Str} {k : Nat} : SE g X W (.Constant (.str x) k pos) (mK (.str x)) := se_k pe_str fun F => by unfold Rep; rfl
end

/-! ### two operands -/
/-- an operation by its values, whatever the slots -/
abbrev rcan (X : Cx) (f : Value → Value → Sem Value) : R2 := fun x y H Q => ∀ (pins : List (Addr × Obj)) (s : Shared) (σ : L2.St) (v u : Value), Inv X pins σ H s → RelV x v → RelV y u → wpAny (model X.prog X.w) X.A (f v u) (EP X pins σ Q) X.xe s
theorem op_can {X : Cx} {f : Value → Value → Sem Value} : OpR X f (rcan X f) := fun pins s σ H x y v u Q I rx ry h => h pins s σ v u I rx ry
theorem oc {X : Cx} {f : Value → Value → Sem Value} {r : R2} (h : OpR X f r) {x y : V} {H : Hp} {Q : VK} (q : r x y H Q) : rcan X f x y H Q := fun pins s σ v u I rx ry => h pins s σ H x y v u Q I rx ry q
/-- what a two-place operation tells of trees -/
def OpOk (g : G) (X : Cx) (f : Value → Value → Sem Value) (op : D → D → Option S) : Prop :=
  ∀ (x y : D) (s : S) (F : Hp) (as : List Addr) (μ : Sto) (H : Hp) (v u : V) (Q : VK), op x y = some s → SR g F as μ H → VR g F H x v → VR g F H y u →
    (∀ F' as' w H', Ext F as F' as' → SR g F' as' μ H' → RA g F' as' H' s w → Q w H') → rcan X f v u H Q
def fin2 (op : D → D → Option S) (μ : Sto) (s1 s2 : S) : Option R :=
  match vw μ s1, vw μ s2 with
  | some x, some y => (match op x y with
    | some s => some (.ok s, μ)
    | none => none)
  | _, _ => none
theorem fin2_some {op : D → D → Option S} {μ μ' : Sto} {s1 s2 : S} {r : Except Ex S} (h : fin2 op μ s1 s2 = some (r, μ')) : ∃ x y s, vw μ s1 = some x ∧ vw μ s2 = some y ∧ op x y = some s ∧ r = .ok s ∧ μ' = μ := by
  unfold fin2 at h
  split at h
  · rename_i x y h1 h2
    split at h
    · rename_i s h3
      cases h
      exact ⟨x, y, s, h1, h2, h3, rfl, rfl⟩
    · cases h
  · cases h
def mOp2 (op : D → D → Option S) (a b : ME) : ME := fun ρ μ => andThen (a ρ μ) fun s1 μ1 => andThen (b ρ μ1) fun s2 μ2 => fin2 op μ2 (rt s1) s2
section
variable {g : G} {X : Cx} {W : WX} {a b : Expr} {ma mb : ME} {dop : D → D → Option S} {pos : Pos}
theorem two_ok {f : Value → Value → Sem Value} {F : Hp} {as : List Addr} {ρ : En} {μ : Sto} {σ : L2.St} {H : Hp} {Q : VK} {r : Except Ex S} {μ' : Sto} (ho : OpOk g X f dop) (ha : SE g X W a ma) (hb : SE g X W b mb)
    (h : mOp2 dop ma mb ρ μ = some (r, μ')) (sr : SR g F as μ H) (er : ER g F as ρ σ) (post : PostE g W F as σ Q r μ') : wpE X a σ H fun x H1 => wpE X b σ H1 fun y H2 => rcan X f x y H2 Q := by
  refine ha.then_ h sr er (fun x e => by subst e; exact post) fun s1 μ1 F1 as1 v1 H1 h1 x1 sr1 er1 ra1 => ?_
  obtain ⟨F1', x1', sr1', rs1⟩ := root_ok sr1 ra1
  refine hb.then_ h1 sr1' (er1.mono x1') (fun x e => by subst e; exact PErr.ext (x1.trans x1') post) fun s2 μ2 F2 as2 v2 H2 h2 x2 sr2 er2 ra2 => ?_
  obtain ⟨x, y, s, e1, e2, e3, e4, e5⟩ := fin2_some h2
  subst e4 e5
  exact ho x y s F2 as2 μ' H2 v1 v2 Q e3 sr2 (view_rs sr2 (rs1.mono x2) e1) (view_ra sr2 ra2 e2) fun F' as' w H' e' r' q => post F' as' w H' ((x1.trans x1').trans (x2.trans e')) r' q
theorem se_bin {op : Operator} (ho : OpOk g X (binaryOp op) dop) (ha : SE g X W a ma) (hb : SE g X W b mb) : SE g X W (.BinOp a op b pos) (mOp2 dop ma mb) :=
  ⟨fun F as ρ μ σ H Q r μ' h sr er post => wE (pe_op op_can pe_wp pe_wp) (two_ok ho ha hb h sr er post)⟩
theorem se_cmp {op : CmpOp} (ho : OpOk g X (compareOp op) dop) (ha : SE g X W a ma) (hb : SE g X W b mb) (hm : behindInMarks op b = false) : SE g X W (.Compare a [op] [b] pos) (mOp2 dop ma mb) :=
  ⟨fun F as ρ μ σ H Q r μ' h sr er post => wE (pe_cmpR op_can pe_wp pe_wp hm) (two_ok ho ha hb h sr er post)⟩
end
/-- a op1 b op2 c; both give truths -/
def bl? : S → Option Bool
  | .val (.bl b) => some b
  | _ => none
def mChain (op op' : D → D → Option S) (a b c : ME) : ME := fun ρ μ => andThen (a ρ μ) fun s1 μ1 => andThen (b ρ μ1) fun s2 μ2 => andThen (fin2 op μ2 (rt s1) (rt s2)) fun s3 μ3 => match bl? s3 with
  | some true => andThen (c ρ μ3) fun s4 μ4 => fin2 op' μ4 (rt s2) s4
  | some false => some (.ok (.val (.bl false)), μ3)
  | none => none
theorem bl?_some {s : S} {b : Bool} (h : bl? s = some b) : s = .val (.bl b) := by
  unfold bl? at h
  split at h
  · cases h; rfl
  · cases h
section
variable {g : G} {X : Cx} {W : WX} {a b c : Expr} {ma mb mc : ME} {dop dop' : D → D → Option S} {pos : Pos}
theorem chain_ok {op op' : CmpOp} {F : Hp} {as : List Addr} {ρ : En} {μ : Sto} {σ : L2.St} {H : Hp} {Q : VK} {r : Except Ex S} {μ' : Sto} (ho : OpOk g X (compareOp op) dop) (ho' : OpOk g X (compareOp op') dop') (ha : SE g X W a ma) (hb : SE g X W b mb) (hc : SE g X W c mc)
    (h : mChain dop dop' ma mb mc ρ μ = some (r, μ')) (sr : SR g F as μ H) (er : ER g F as ρ σ) (post : PostE g W F as σ Q r μ') : tChain (rcan X (compareOp op)) (rcan X (compareOp op')) (wpE X a) (wpE X b) (wpE X c) σ H Q := by
  refine ha.then_ h sr er (fun x e => by subst e; exact post) fun s1 μ1 F1 as1 v1 H1 h1 x1 sr1 er1 ra1 => ?_
  obtain ⟨F1', x1', sr1', rs1⟩ := root_ok sr1 ra1
  refine hb.then_ h1 sr1' (er1.mono x1') (fun x e => by subst e; exact PErr.ext (x1.trans x1') post) fun s2 μ2 F2 as2 v2 H2 h2 x2 sr2 er2 ra2 => ?_
  obtain ⟨F2', x2', sr2', rs2⟩ := root_ok sr2 ra2
  rcases andThen_some h2 with ⟨x, h3, h4⟩ | ⟨s3, μ3, h3, h4⟩
  · obtain ⟨_, _, _, _, _, _, e, _⟩ := fin2_some h3
    cases e
  · obtain ⟨x, y, s, e1, e2, e3, e4, e5⟩ := fin2_some h3
    cases e4
    subst e5
    have x02 : Ext F as F2' as2 := (x1.trans x1').trans (x2.trans x2')
    refine ho x y s3 F2' as2 μ3 H2 v1 v2 _ e3 sr2' (view_rs sr2' ((rs1.mono x2).mono x2') e1) (view_rs sr2' rs2 e2) fun F3 as3 w H3 x3 sr3 ra3 => ?_
    cases q : bl? s3 with
    | none => rw [q] at h4; cases h4
    | some k =>
      rw [q] at h4
      rw [bl?_some q] at ra3
      refine ⟨k, ra3, ?_⟩
      have er3 : ER g F3 as3 ρ σ := (er2.mono x2').mono x3
      cases k with
      | false =>
        rw [if_neg Bool.false_ne_true]
        cases h4
        exact post F3 as3 _ H3 (x02.trans x3) sr3 rfl
      | true =>
        rw [if_pos rfl]
        refine hc.then_ h4 sr3 er3 (fun x e => by subst e; exact PErr.ext (x02.trans x3) post) fun s4 μ4 F4 as4 v4 H4 h5 x4 sr4 er4 ra4 => ?_
        obtain ⟨x', y', s', e1', e2', e3', e4', e5'⟩ := fin2_some h5
        subst e4' e5'
        exact ho' x' y' s' F4 as4 μ' H4 v2 v4 Q e3' sr4 (view_rs sr4 ((rs2.mono x3).mono x4) e1') (view_ra sr4 ra4 e2') fun F' as' w' H' e' r' q' => post F' as' w' H' ((x02.trans x3).trans (x4.trans e')) r' q'
theorem se_chain {op op' : CmpOp} (ho : OpOk g X (compareOp op) dop) (ho' : OpOk g X (compareOp op') dop') (ha : SE g X W a ma) (hb : SE g X W b mb) (hc : SE g X W c mc) (hm : lastMarks [op, op'] [b, c] = false) :
    SE g X W (.Compare a [op, op'] [b, c] pos) (mChain dop dop' ma mb mc) :=
  ⟨fun F as ρ μ σ H Q r μ' h sr er post => wE (pe_chain op_can op_can pe_wp pe_wp pe_wp hm) (chain_ok ho ho' ha hb hc h sr er post)⟩
end

/-! ### one operand -/
def UnOk (g : G) (X : Cx) (f : Value → Sem Value) (op : D → Option S) : Prop :=
  ∀ (x : D) (s : S) (F : Hp) (as : List Addr) (μ : Sto) (H : Hp) (v : V) (Q : VK), op x = some s → SR g F as μ H → VR g F H x v →
    (∀ F' as' w H', Ext F as F' as' → SR g F' as' μ H' → RA g F' as' H' s w → Q w H') → ∀ (pins : List (Addr × Obj)) (st : Shared) (σ : L2.St) (a : Value), Inv X pins σ H st → RelV v a → wpAny (model X.prog X.w) X.A (f a) (EP X pins σ Q) X.xe st
def fin1 (op : D → Option S) (μ : Sto) (s1 : S) : Option R :=
  match vw μ s1 with
  | some x => (match op x with
    | some s => some (.ok s, μ)
    | none => none)
  | _ => none
theorem fin1_some {op : D → Option S} {μ μ' : Sto} {s1 : S} {r : Except Ex S} (h : fin1 op μ s1 = some (r, μ')) : ∃ x s, vw μ s1 = some x ∧ op x = some s ∧ r = .ok s ∧ μ' = μ := by
  unfold fin1 at h
  split at h
  · rename_i x h1
    split at h
    · rename_i s h3
      cases h
      exact ⟨x, s, h1, h3, rfl, rfl⟩
    · cases h
  · cases h
def mOp1 (op : D → Option S) (a : ME) : ME := fun ρ μ => andThen (a ρ μ) fun s1 μ1 => fin1 op μ1 s1
def dNeg : D → Option S
  | .int i => some (.val (.int (-i)))
  | _ => none
def dNot : D → Option S
  | .bl b => some (.val (.bl (!b)))
  | _ => none
section
variable {g : G} {X : Cx} {W : WX} {a : Expr} {ma : ME} {pos : Pos} {F H : Hp} {v : V}
theorem vr_int {i : Int} (h : VR g F H (.int i) v) : v = .int i := by
  rcases h with ⟨_, _, _, e, _⟩ | h
  · cases e
  · unfold Rep at h; exact h
theorem vr_bl {b : Bool} (h : VR g F H (.bl b) v) : v = .bl b := by
  rcases h with ⟨_, _, _, e, _⟩ | h
  · cases e
  · unfold Rep at h; exact h
theorem vr_str {x : Str} (h : VR g F H (.str x) v) : v = .str x := by
  rcases h with ⟨_, _, _, e, _⟩ | h
  · cases e
  · unfold Rep at h; exact h
theorem vr_non (h : VR g F H .non v) : v = .non := by
  rcases h with ⟨_, _, _, e, _⟩ | h
  · cases e
  · unfold Rep at h; exact h
theorem vr_lst {as : List Addr} {μ : Sto} {ds : List D} (sr : SR g F as μ H) (h : VR g F H (.lst ds) v) : ∃ a vs, v = .ref a ∧ H a = some (.lst vs) ∧ Reps g F ds vs := by
  rcases h with ⟨ds', a, vs, e, e1, e2, e3⟩ | h
  · cases e
    exact ⟨a, vs, e1, e2, e3⟩
  · unfold Rep at h
    obtain ⟨a, vs, e1, e2, e3⟩ := h
    exact ⟨a, vs, e1, sr.sub _ _ e2, e3⟩
theorem vr_tup {as : List Addr} {μ : Sto} {ds : List D} (sr : SR g F as μ H) (h : VR g F H (.tup ds) v) : ∃ a vs, v = .ref a ∧ SqT g.K H a vs ∧ Reps g F ds vs := by
  rcases h with ⟨ds', a, vs, e, e1, e2, e3⟩ | h
  · cases e
  · unfold Rep at h
    obtain ⟨a, vs, e1, e2, e3⟩ := h
    exact ⟨a, vs, e1, seqT_mono sr.sub e2, e3⟩
theorem vr_scr {as : List Addr} {μ : Sto} {ns : List Int} (sr : SR g F as μ H) (h : VR g F H (.scr ns) v) : ∃ a, v = .ref a ∧ SqL g.K H a (ns.map V.int) := by
  rcases h with ⟨ds', a, vs, e, e1, e2, e3⟩ | h
  · cases e
  · unfold Rep at h
    obtain ⟨a, e1, e2⟩ := h
    exact ⟨a, e1, sr.sub.seq e2⟩
theorem ra_int {as : List Addr} {i : Int} : RA g F as H (.val (.int i)) (.int i) := by show Rep g F _ _; unfold Rep; rfl
theorem ra_bl {as : List Addr} {b : Bool} : RA g F as H (.val (.bl b)) (.bl b) := by show Rep g F _ _; unfold Rep; rfl
theorem ra_str {as : List Addr} {x : Str} : RA g F as H (.val (.str x)) (.str x) := by show Rep g F _ _; unfold Rep; rfl
theorem ra_non {as : List Addr} : RA g F as H (.val .non) .non := by show Rep g F _ _; unfold Rep; rfl
theorem se_un {op : UnaryOp} {dop : D → Option S} (ho : UnOk g X (unaryOp op) dop) (ha : SE g X W a ma) : SE g X W (.UnaryOp op a pos) (mOp1 dop ma) := by
  refine ⟨fun F as ρ μ σ H Q r μ' h sr er post => wE (pe_un (r := fun x H Q => ∀ (pins : List (Addr × Obj)) (st : Shared) (σ : L2.St) (v : Value), Inv X pins σ H st → RelV x v → wpAny (model X.prog X.w) X.A (unaryOp op v) (EP X pins σ Q) X.xe st)
    (fun pins s σ H x v Q I rx h => h pins s σ v I rx) pe_wp) ?_⟩
  refine ha.then_ h sr er (fun x e => by subst e; exact post) fun s1 μ1 F1 as1 v1 H1 h1 x1 sr1 er1 ra1 => ?_
  obtain ⟨x, s, e1, e2, e3, e4⟩ := fin1_some h1
  subst e3 e4
  exact ho x s F1 as1 μ' H1 v1 Q e2 sr1 (view_ra sr1 ra1 e1) fun F' as' w H' e' r' q => post F' as' w H' (x1.trans e') r' q
theorem un_ok_neg : UnOk g X (unaryOp .USub) dNeg := by
  intro x s F as μ H v Q e sr vr k pins st σ a I rx
  unfold dNeg at e
  split at e
  · cases e
    cases vr_int vr
    exact un_neg pins st σ H _ a Q I rx ⟨_, rfl, k F as _ H .refl sr ra_int⟩
  · cases e
/-- not a, a truth (or a test) -/
theorem se_not (ha : SE g X W a ma) : SE g X W (.UnaryOp .Not a pos) (mOp1 dNot ma) := by
  refine ⟨fun F as ρ μ σ H Q r μ' h sr er post => wE (pe_not pe_wp) ?_⟩
  refine ha.then_ h sr er (fun x e => by subst e; exact post) fun s1 μ1 F1 as1 v1 H1 h1 x1 sr1 er1 ra1 => ?_
  obtain ⟨x, s, e1, e2, e3, e4⟩ := fin1_some h1
  subst e3 e4
  unfold dNot at e2
  split at e2
  · rename_i b
    cases e2
    exact ⟨b, vr_bl (view_ra sr1 ra1 e1), post F1 as1 _ H1 x1 sr1 ra_bl⟩
  · cases e2
end

/-! ### and, or: all but the last are truths -/
def mAnd (a b : ME) : ME := fun ρ μ => andThen (a ρ μ) fun s μ1 => match bl? s with
  | some true => b ρ μ1
  | some false => some (.ok (.val (.bl false)), μ1)
  | none => none
def mOr (a b : ME) : ME := fun ρ μ => andThen (a ρ μ) fun s μ1 => match bl? s with
  | some false => b ρ μ1
  | some true => some (.ok (.val (.bl true)), μ1)
  | none => none
section
variable {g : G} {X : Cx} {W : WX} {a b : Expr} {rest : List Expr} {ma mb : ME} {pos : Pos}
theorem se_one {op : BoolOp} (ha : SE g X W a ma) : SE g X W (.BoolOp op [a] pos) ma :=
  ⟨fun F as ρ μ σ H Q r μ' h sr er post => wE (pe_one pe_wp) (ha.run F as ρ μ σ H Q r μ' h sr er post)⟩
theorem se_and (ha : SE g X W a ma) (hb : SE g X W (.BoolOp .And (b :: rest) pos) mb) : SE g X W (.BoolOp .And (a :: b :: rest) pos) (mAnd ma mb) := by
  refine ⟨fun F as ρ μ σ H Q r μ' h sr er post => wE (pe_and pe_wp pe_wp) ?_⟩
  refine ha.then_ h sr er (fun x e => by subst e; exact post) fun s1 μ1 F1 as1 v1 H1 h1 x1 sr1 er1 ra1 => ?_
  cases q : bl? s1 with
  | none => rw [q] at h1; cases h1
  | some k =>
    rw [q] at h1
    rw [bl?_some q] at ra1
    refine ⟨k, ra1, ?_⟩
    cases k with
    | true =>
      rw [if_pos rfl]
      exact hb.run F1 as1 ρ μ1 σ H1 Q r μ' h1 sr1 er1 (by cases r with
        | ok s => exact fun F' as' v H' e' r' q' => post F' as' v H' (x1.trans e') r' q'
        | error x => exact PErr.ext x1 post)
    | false =>
      rw [if_neg Bool.false_ne_true]
      cases h1
      exact post F1 as1 _ H1 x1 sr1 ra_bl
theorem se_or (ha : SE g X W a ma) (hb : SE g X W (.BoolOp .Or (b :: rest) pos) mb) : SE g X W (.BoolOp .Or (a :: b :: rest) pos) (mOr ma mb) := by
  refine ⟨fun F as ρ μ σ H Q r μ' h sr er post => wE (pe_or pe_wp pe_wp) ?_⟩
  refine ha.then_ h sr er (fun x e => by subst e; exact post) fun s1 μ1 F1 as1 v1 H1 h1 x1 sr1 er1 ra1 => ?_
  cases q : bl? s1 with
  | none => rw [q] at h1; cases h1
  | some k =>
    rw [q] at h1
    rw [bl?_some q] at ra1
    refine ⟨k, ra1, ?_⟩
    cases k with
    | false =>
      rw [if_neg Bool.false_ne_true]
      exact hb.run F1 as1 ρ μ1 σ H1 Q r μ' h1 sr1 er1 (by cases r with
        | ok s => exact fun F' as' v H' e' r' q' => post F' as' v H' (x1.trans e') r' q'
        | error x => exact PErr.ext x1 post)
    | true =>
      rw [if_pos rfl]
      cases h1
      exact post F1 as1 _ H1 x1 sr1 ra_bl
end

/-! ### tests -/
def tBl (a : ME) : MT := fun ρ μ => andThen (a ρ μ) fun s μ1 => match bl? s with
  | some b => some (.ok b, μ1)
  | none => none
def tNotM (a : MT) : MT := fun ρ μ => andThen (a ρ μ) fun b μ1 => some (.ok (!b), μ1)
def tAndM (a b : MT) : MT := fun ρ μ => andThen (a ρ μ) fun c μ1 => if c then b ρ μ1 else some (.ok false, μ1)
def tOrM (a b : MT) : MT := fun ρ μ => andThen (a ρ μ) fun c μ1 => if c then some (.ok true, μ1) else b ρ μ1
def mIf (t : MT) (a b : ME) : ME := fun ρ μ => andThen (t ρ μ) fun c μ1 => if c then a ρ μ1 else b ρ μ1
section
variable {g : G} {X : Cx} {W : WX} {a b c : Expr} {rest : List Expr} {ma mb : ME} {ta tb : MT} {pos : Pos}
theorem PostT.ext {F F1 : Hp} {as as1 : List Addr} {σ : L2.St} {Q : Bool → Hp → Prop} {r : Except Ex Bool} {μ : Sto} (e : Ext F as F1 as1) (h : PostT g W F as σ Q r μ) : PostT g W F1 as1 σ Q r μ := by
  cases r with
  | ok b => exact fun F' as' H' e' r' => h F' as' H' (e.trans e') r'
  | error x => exact PErr.ext e h
theorem PostE.ext {F F1 : Hp} {as as1 : List Addr} {σ : L2.St} {Q : VK} {r : Except Ex S} {μ : Sto} (e : Ext F as F1 as1) (h : PostE g W F as σ Q r μ) : PostE g W F1 as1 σ Q r μ := by
  cases r with
  | ok b => exact fun F' as' v H' e' r' q => h F' as' v H' (e.trans e') r' q
  | error x => exact PErr.ext e h
/-- a value that is a truth, as a test -/
theorem tBl_run {F : Hp} {as : List Addr} {ρ : En} {μ : Sto} {σ : L2.St} {H : Hp} {Q : Bool → Hp → Prop} {r : Except Ex Bool} {μ' : Sto} (ha : SE g X W a ma) (h : tBl ma ρ μ = some (r, μ')) (sr : SR g F as μ H) (er : ER g F as ρ σ)
    (post : PostT g W F as σ Q r μ') : wpE X a σ H fun x H1 => ∃ c, x = .bl c ∧ Q c H1 := by
  refine ha.then_ h sr er (fun x e => by subst e; exact post) fun s1 μ1 F1 as1 v1 H1 h1 x1 sr1 er1 ra1 => ?_
  cases q : bl? s1 with
  | none => rw [q] at h1; cases h1
  | some k =>
    rw [q] at h1
    rw [bl?_some q] at ra1
    cases h1
    exact ⟨k, ra1, post F1 as1 H1 x1 sr1⟩
theorem st_val (ha : SE g X W a ma) (he : ∀ whole, isTrue a X.env whole = (do let v ← whole; standAt a.pos; holding [v] (truthy v))) : STe g X W a (tBl ma) :=
  ⟨fun F as ρ μ σ H Q r μ' h sr er post => wT (pt_val pe_wp he) (tBl_run ha h sr er post)⟩
theorem st_cmp {op : CmpOp} {dop : D → D → Option S} (ho : OpOk g X (compareOp op) dop) (ha : SE g X W a ma) (hb : SE g X W b mb) (hm : behindInMarks op b = false) : STe g X W (.Compare a [op] [b] pos) (tBl (mOp2 dop ma mb)) := by
  refine ⟨fun F as ρ μ σ H Q r μ' h sr er post => wT (pt_cmpR op_can pe_wp pe_wp hm) ?_⟩
  show tOp _ _ _ σ H fun x H' => ∃ k, x = .bl k ∧ Q k H'
  rcases andThen_some h with ⟨x, h1, h2⟩ | ⟨s1, μ1, h1, h2⟩
  · dsimp only at h2
    subst h2
    exact two_ok ho ha hb h1 sr er (show PostE g W F as σ _ (.error x) μ' from post)
  · refine two_ok ho ha hb h1 sr er fun F' as' v H' e' r' q => ?_
    cases z : bl? s1 with
    | none => rw [z] at h2; cases h2
    | some k =>
      rw [z] at h2
      rw [bl?_some z] at q
      cases h2
      exact ⟨k, q, post F' as' H' e' r'⟩
theorem st_chain {op op' : CmpOp} {dop dop' : D → D → Option S} {mc : ME} (ho : OpOk g X (compareOp op) dop) (ho' : OpOk g X (compareOp op') dop') (ha : SE g X W a ma) (hb : SE g X W b mb) (hc : SE g X W c mc) (hm : lastMarks [op, op'] [b, c] = false) :
    STe g X W (.Compare a [op, op'] [b, c] pos) (tBl (mChain dop dop' ma mb mc)) := by
  refine ⟨fun F as ρ μ σ H Q r μ' h sr er post => wT (pt_chain op_can op_can pe_wp pe_wp pe_wp hm) ?_⟩
  show tChain _ _ _ _ _ σ H fun x H' => ∃ k, x = .bl k ∧ Q k H'
  rcases andThen_some h with ⟨x, h1, h2⟩ | ⟨s1, μ1, h1, h2⟩
  · dsimp only at h2
    subst h2
    exact chain_ok ho ho' ha hb hc h1 sr er (show PostE g W F as σ _ (.error x) μ' from post)
  · refine chain_ok ho ho' ha hb hc h1 sr er fun F' as' v H' e' r' q => ?_
    cases z : bl? s1 with
    | none => rw [z] at h2; cases h2
    | some k =>
      rw [z] at h2
      rw [bl?_some z] at q
      cases h2
      exact ⟨k, q, post F' as' H' e' r'⟩
theorem st_not (ha : STe g X W a ta) : STe g X W (.UnaryOp .Not a pos) (tNotM ta) := by
  refine ⟨fun F as ρ μ σ H Q r μ' h sr er post => wT (pt_not pt_wp) ?_⟩
  refine ha.then_ h sr er (fun x e => by subst e; exact post) fun b μ1 F1 as1 H1 h1 x1 sr1 er1 => ?_
  cases h1
  exact post F1 as1 H1 x1 sr1
theorem sw_one (op : BoolOp) (ha : STe g X W a ta) : SW g X W (.BoolOp op [a] pos) ta := by
  cases op with
  | And => exact ⟨fun F as ρ μ σ H Q r μ' h sr er post => wW (pw_and1 pt_wp) (ha.run F as ρ μ σ H Q r μ' h sr er post)⟩
  | Or => exact ⟨fun F as ρ μ σ H Q r μ' h sr er post => wW (pw_or1 pt_wp) (ha.run F as ρ μ σ H Q r μ' h sr er post)⟩
theorem sw_and (ha : STe g X W a ta) (hb : SW g X W (.BoolOp .And (b :: rest) pos) tb) : SW g X W (.BoolOp .And (a :: b :: rest) pos) (tAndM ta tb) := by
  refine ⟨fun F as ρ μ σ H Q r μ' h sr er post => wW (pw_and pt_wp pw_wp) ?_⟩
  refine ha.then_ h sr er (fun x e => by subst e; exact post) fun k μ1 F1 as1 H1 h1 x1 sr1 er1 => ?_
  cases k with
  | true => rw [if_pos rfl] at h1 ⊢; exact hb.run F1 as1 ρ μ1 σ H1 Q r μ' h1 sr1 er1 (PostT.ext x1 post)
  | false =>
    rw [if_neg Bool.false_ne_true] at h1 ⊢
    cases h1
    exact post F1 as1 H1 x1 sr1
theorem sw_or (ha : STe g X W a ta) (hb : SW g X W (.BoolOp .Or (b :: rest) pos) tb) : SW g X W (.BoolOp .Or (a :: b :: rest) pos) (tOrM ta tb) := by
  refine ⟨fun F as ρ μ σ H Q r μ' h sr er post => wW (pw_or pt_wp pw_wp) ?_⟩
  refine ha.then_ h sr er (fun x e => by subst e; exact post) fun k μ1 F1 as1 H1 h1 x1 sr1 er1 => ?_
  cases k with
  | false => rw [if_neg Bool.false_ne_true] at h1 ⊢; exact hb.run F1 as1 ρ μ1 σ H1 Q r μ' h1 sr1 er1 (PostT.ext x1 post)
  | true =>
    rw [if_pos rfl] at h1 ⊢
    cases h1
    exact post F1 as1 H1 x1 sr1
theorem st_pw (h : SW g X W a ta) : STe g X W a ta := ⟨fun F as ρ μ σ H Q r μ' e sr er post => wT (pw_wp.pt) (h.run F as ρ μ σ H Q r μ' e sr er post)⟩
theorem se_if (hc : STe g X W c ta) (ha : SE g X W a ma) (hb : SE g X W b mb) : SE g X W (.IfExp c a b pos) (mIf ta ma mb) := by
  refine ⟨fun F as ρ μ σ H Q r μ' h sr er post => wE (pe_ifExp pt_wp pe_wp pe_wp) ?_⟩
  refine hc.then_ h sr er (fun x e => by subst e; exact post) fun k μ1 F1 as1 H1 h1 x1 sr1 er1 => ?_
  cases k with
  | true => rw [if_pos rfl] at h1 ⊢; exact ha.run F1 as1 ρ μ1 σ H1 Q r μ' h1 sr1 er1 (PostE.ext x1 post)
  | false => rw [if_neg Bool.false_ne_true] at h1 ⊢; exact hb.run F1 as1 ρ μ1 σ H1 Q r μ' h1 sr1 er1 (PostE.ext x1 post)
end
end Sz

set_option Elab.async false
set_option linter.all false
set_option maxRecDepth 100000
set_option maxHeartbeats 4000000
/-! Sz D: the operations on trees. -/
namespace Sz
open PySem PySem.Spec L2

/-! ### data -/
mutual
def toPy : D → Option PyData
  | .non => some .none
  | .bl b => some (.bool b)
  | .int i => some (.int i)
  | .str s => some (.str s)
  | .tup ds => match toPys ds with
    | some ps => some (.tuple ps)
    | none => none
  | .lst ds => match toPys ds with
    | some ps => some (.list ps)
    | none => none
  | _ => none
def toPys : List D → Option (List PyData)
  | [] => some []
  | d :: ds => match toPy d, toPys ds with
    | some p, some ps => some (p :: ps)
    | _, _ => none
end
section
variable {g : G} {F H : Hp}
mutual
theorem toPy_rep (e : Same F H) : ∀ {d : D} {v : V} {p : PyData}, toPy d = some p → Rep g F d v → Dp g.K H v p
  | .non, v, p, h, r => by unfold toPy at h; cases h; unfold Rep at r; subst r; exact .non
  | .bl b, v, p, h, r => by unfold toPy at h; cases h; unfold Rep at r; subst r; exact .bl b
  | .int i, v, p, h, r => by unfold toPy at h; cases h; unfold Rep at r; subst r; exact .int i
  | .str s, v, p, h, r => by unfold toPy at h; cases h; unfold Rep at r; subst r; exact .str s
  | .tup ds, v, p, h, r => by
    unfold toPy at h
    cases q : toPys ds with
    | none => rw [q] at h; cases h
    | some ps =>
      rw [q] at h
      cases h
      unfold Rep at r
      obtain ⟨a, vs, rfl, h1, h2⟩ := r
      exact .tup (seqT_mono e h1) (toPys_rep e q h2)
  | .lst ds, v, p, h, r => by
    unfold toPy at h
    cases q : toPys ds with
    | none => rw [q] at h; cases h
    | some ps =>
      rw [q] at h
      cases h
      unfold Rep at r
      obtain ⟨a, vs, rfl, h1, h2⟩ := r
      exact .lst (SqL.of (e _ _ h1)) (toPys_rep e q h2)
  | .ty _, _, _, h, _ => by unfold toPy at h; cases h
  | .obj _ _, _, _, h, _ => by unfold toPy at h; cases h
  | .fn _, _, _, h, _ => by unfold toPy at h; cases h
  | .cls _, _, _, h, _ => by unfold toPy at h; cases h
  | .scr _, _, _, h, _ => by unfold toPy at h; cases h
theorem toPys_rep (e : Same F H) : ∀ {ds : List D} {vs : List V} {ps : List PyData}, toPys ds = some ps → Reps g F ds vs → DpAll g.K H vs ps
  | [], vs, ps, h, r => by
    unfold toPys at h
    cases h
    rw [Reps.nil_iff.mp r]
    exact .nil
  | d :: ds, vs, ps, h, r => by
    unfold toPys at h
    cases q : toPy d with
    | none => rw [q] at h; simp at h
    | some p =>
      cases q2 : toPys ds with
      | none => rw [q, q2] at h; simp at h
      | some ps' =>
        rw [q, q2] at h
        simp only [Option.some.injEq] at h
        subst h
        obtain ⟨v, r', e1, e2, e3⟩ := Reps.cons_iff.mp r
        subst e1
        exact .cons (toPy_rep e q e2) (toPys_rep e q2 e3)
end
theorem toPy_vr {as : List Addr} {μ : Sto} {d : D} {v : V} {p : PyData} (sr : SR g F as μ H) (h : toPy d = some p) (r : VR g F H d v) : Dp g.K H v p := by
  rcases r with ⟨ds, a, vs, e, e1, e2, e3⟩ | r
  · subst e
    unfold toPy at h
    cases q : toPys ds with
    | none => rw [q] at h; cases h
    | some ps =>
      rw [q] at h
      cases h
      subst e1
      exact .lst (SqL.of e2) (toPys_rep sr.sub q e3)
  · exact toPy_rep sr.sub h r
end

/-! ### + - * // % ** -/
def mulOk (i j : Int) : Bool := !(decide (Builtin.Int.intBits i > shortFactorBits) && decide (Builtin.Int.intBits j > shortFactorBits) && Builtin.Int.intTooBig (Builtin.Int.intBits i + Builtin.Int.intBits j))
theorem mulOk_ok {i j : Int} (h : mulOk i j = true) : IntMulOk i j := by
  unfold mulOk at h
  unfold IntMulOk
  intro z
  rw [z] at h
  cases h
theorem mulOk_of {i j : Int} (h : IntMulOk i j) : mulOk i j = true := by
  unfold IntMulOk at h
  unfold mulOk
  rw [Bool.not_eq_true'] 
  exact Bool.eq_false_iff.mpr h
def dAdd : D → D → Option S
  | .int i, .int j => some (.val (.int (i + j)))
  | .str s, .str t => if s.length + t.length ≤ sizeLine then some (.val (.str (s ++ t))) else none
  | .lst a, .lst b => if a.length + b.length ≤ sizeLine then some (.fr (a ++ b)) else none
  | .tup a, .tup b => if a.length + b.length ≤ sizeLine then (match a with
    | [] => none
    | _ => some (.val (.tup (a ++ b)))) else none
  | _, _ => none
def dSub : D → D → Option S
  | .int i, .int j => some (.val (.int (i - j)))
  | _, _ => none
def dMul : D → D → Option S
  | .int i, .int j => if mulOk i j then some (.val (.int (i * j))) else none
  | .lst a, .int k => if -(2 ^ 63) ≤ k ∧ k < 2 ^ 63 ∧ a.length * k.toNat ≤ sizeLine then some (.fr (List.replicate k.toNat a).flatten) else none
  | _, _ => none
def dFdiv : D → D → Option S
  | .int i, .int j => if j ≠ 0 ∧ j.natAbs.log2 < 9000 then some (.val (.int (i.fdiv j))) else none
  | _, _ => none
def dMod : D → D → Option S
  | .int i, .int j => if j ≠ 0 then some (.val (.int (i.fmod j))) else none
  | _, _ => none
def dPow : D → D → Option S
  | .int i, .int j => if 0 ≤ j ∧ (Builtin.Int.intBits i : Int) * j ≤ 2 ^ 27 then some (.val (.int (i ^ j.toNat))) else none
  | _, _ => none
section
variable {g : G} {X : Cx}
theorem fdiv_rule : OpR X (binaryOp .FloorDiv) (rI (fun _ j => j ≠ 0 ∧ j.natAbs.log2 < 9000) fun i j => .int (i.fdiv j)) := opI fun _ _ _ _ _ _ _ hc q => PyProof.Rows.floordiv_int hc.1 q (.inl (PyProof.noPylong_of_log2 hc.2))
theorem mul_rule : OpR X (binaryOp .Mult) (rI (fun i j => IntMulOk i j) fun i j => .int (i * j)) := opI fun _ _ _ _ _ _ _ hc q => PyProof.Rows.mul_int q hc
theorem pow_rule : OpR X (binaryOp .Pow) (rI (fun i j => 0 ≤ j ∧ (Builtin.Int.intBits i : Int) * j ≤ 2 ^ 27) fun i j => .int (i ^ j.toNat)) := opI fun _ _ _ _ _ _ _ hc q => PyProof.Rows.pow_int hc.1 hc.2 q
theorem ra_lst {F H : Hp} {as : List Addr} {p : Addr} {vs : List V} {ds : List D} (h1 : H p = some (.lst vs)) (h2 : F p = none) (h3 : p ∉ as) (h4 : Reps g F ds vs) : RA g F as H (.fr ds) (.ref p) := ⟨p, vs, rfl, h1, h2, h3, h4⟩
theorem ok_add (hg : g.K = X.K) : OpOk g X (binaryOp .Add) dAdd := by
  intro x y s F as μ H v u Q e sr hx hy k
  unfold dAdd at e
  split at e
  · cases e
    cases vr_int hx
    cases vr_int hy
    exact oc op_add ⟨_, _, rfl, rfl, k F as _ H .refl sr ra_int⟩
  · split at e
    · rename_i hz
      cases e
      cases vr_str hx
      cases vr_str hy
      exact oc op_add_str ⟨_, _, rfl, rfl, hz, k F as _ H .refl sr ra_str⟩
    · cases e
  · split at e
    · rename_i hz
      cases e
      obtain ⟨a, vs, rfl, h1, r1⟩ := vr_lst sr hx
      obtain ⟨b, us, rfl, h2, r2⟩ := vr_lst sr hy
      refine oc op_cat ⟨a, b, vs, us, rfl, rfl, h1, h2, by rw [r1.length, r2.length]; exact hz, fun p hp => ?_⟩
      obtain ⟨sr', f, n⟩ := sr.loose (o := .lst (vs ++ us)) hp
      exact k F as _ _ .refl sr' (ra_lst upd_same f n (r1.append r2))
    · cases e
  · rename_i a b
    split at e
    · rename_i hz
      split at e
      · cases e
      · rename_i hne
        cases e
        obtain ⟨a', vs, rfl, h1, r1⟩ := vr_tup sr hx
        obtain ⟨b', us, rfl, h2, r2⟩ := vr_tup sr hy
        have hv : vs ≠ [] := fun z => by
          have := r1.length
          rw [z] at this
          exact hne (List.eq_nil_of_length_eq_zero this.symm)
        refine oc op_catT ⟨a', b', vs, us, rfl, rfl, hg ▸ h1, hg ▸ h2, hv, by rw [r1.length, r2.length]; exact hz, fun z => ?_, fun _ p hp => ?_⟩
        · have hb : b = [] := by
            have := r2.length
            rw [z] at this
            exact List.eq_nil_of_length_eq_zero this.symm
          subst hb
          rcases hx with ⟨_, _, _, e', _⟩ | hx
          · cases e'
          · refine k F as _ H .refl sr ?_
            show Rep g F _ _
            rw [List.append_nil]
            exact hx
        · obtain ⟨sr', x', y'⟩ := sr.frozen (o := .tup (vs ++ us)) hp
          refine k _ as _ _ x' sr' ?_
          show Rep g _ (.tup (a ++ b)) _
          unfold Rep
          exact ⟨p, _, rfl, SqT.of y', (r1.append r2).mono x'.1⟩
    · cases e
  · cases e
theorem ok_sub : OpOk g X (binaryOp .Sub) dSub := by
  intro x y s F as μ H v u Q e sr hx hy k
  unfold dSub at e
  split at e
  · cases e
    cases vr_int hx
    cases vr_int hy
    exact oc op_sub ⟨_, _, rfl, rfl, k F as _ H .refl sr ra_int⟩
  · cases e
theorem ok_mul : OpOk g X (binaryOp .Mult) dMul := by
  intro x y s F as μ H v u Q e sr hx hy k
  unfold dMul at e
  split at e
  · split at e
    · rename_i hz
      cases e
      cases vr_int hx
      cases vr_int hy
      exact oc mul_rule ⟨_, _, rfl, rfl, mulOk_ok hz, k F as _ H .refl sr ra_int⟩
    · cases e
  · split at e
    · rename_i hz
      cases e
      obtain ⟨a, vs, rfl, h1, r1⟩ := vr_lst sr hx
      cases vr_int hy
      refine oc op_rep ⟨a, _, vs, rfl, rfl, h1, hz.1, hz.2.1, by rw [r1.length]; exact hz.2.2, fun p hp => ?_⟩
      obtain ⟨sr', f, n⟩ := sr.loose (o := .lst (List.replicate _ vs).flatten) hp
      exact k F as _ _ .refl sr' (ra_lst upd_same f n (r1.rep _))
    · cases e
  · cases e
theorem ok_fdiv : OpOk g X (binaryOp .FloorDiv) dFdiv := by
  intro x y s F as μ H v u Q e sr hx hy k
  unfold dFdiv at e
  split at e
  · split at e
    · rename_i hz
      cases e
      cases vr_int hx
      cases vr_int hy
      exact oc fdiv_rule ⟨_, _, rfl, rfl, hz, k F as _ H .refl sr ra_int⟩
    · cases e
  · cases e
theorem ok_mod : OpOk g X (binaryOp .Mod) dMod := by
  intro x y s F as μ H v u Q e sr hx hy k
  unfold dMod at e
  split at e
  · split at e
    · rename_i hz
      cases e
      cases vr_int hx
      cases vr_int hy
      exact oc op_modN ⟨_, _, rfl, rfl, hz, k F as _ H .refl sr ra_int⟩
    · cases e
  · cases e
theorem ok_pow : OpOk g X (binaryOp .Pow) dPow := by
  intro x y s F as μ H v u Q e sr hx hy k
  unfold dPow at e
  split at e
  · split at e
    · rename_i hz
      cases e
      cases vr_int hx
      cases vr_int hy
      exact oc pow_rule ⟨_, _, rfl, rfl, hz, k F as _ H .refl sr ra_int⟩
    · cases e
  · cases e
end

/-! ### comparisons -/
def dLt : D → D → Option S
  | .int i, .int j => some (.val (.bl (decide (i < j))))
  | .str s, .str t => some (.val (.bl (decide (s.cps.toList < t.cps.toList))))
  | _, _ => none
def dLe : D → D → Option S
  | .int i, .int j => some (.val (.bl (decide (i ≤ j))))
  | _, _ => none
def dGt : D → D → Option S
  | .int i, .int j => some (.val (.bl (decide (j < i))))
  | _, _ => none
def dGe : D → D → Option S
  | .int i, .int j => some (.val (.bl (decide (j ≤ i))))
  | _, _ => none
def isNon : D → Bool
  | .non => true
  | _ => false
def dIs : D → D → Option S
  | x, .non => some (.val (.bl (isNon x)))
  | _, _ => none
def dIsNot : D → D → Option S
  | x, .non => some (.val (.bl (!isNon x)))
  | _, _ => none
/-- == of data -/
def pyEq (x y : D) : Option Bool := match toPy x, toPy y with
  | some p, some q => if SeqAt.shaped p && SeqAt.shaped q then some (PyData.eqv p q) else none
  | _, _ => none
def dEq (x y : D) : Option S := (pyEq x y).map fun b => .val (.bl b)
def dNe (x y : D) : Option S := (pyEq x y).map fun b => .val (.bl (!b))
/-- in: a text in a text, a thing in a list of data -/
def pyIn : D → D → Option Bool
  | .str i, .str j => some (!(Builtin.Str.occurrences j i 0 j.length 1).isEmpty)
  | x, .lst ds => match toPy x, toPys ds with
    | some p, some ps => if SeqAt.shaped p && SeqAt.shaped (.list ps) then some (ps.any fun z => PyData.eqv z p) else none
    | _, _ => none
  | _, _ => none
def dIn (x y : D) : Option S := (pyIn x y).map fun b => .val (.bl b)
def dNotIn (x y : D) : Option S := (pyIn x y).map fun b => .val (.bl (!b))
section
variable {g : G} {X : Cx}
theorem isNon_rep {F : Hp} {d : D} {v : V} (h : Rep g F d v) : decide (v = .non) = isNon d := by
  cases d with
  | non => unfold Rep at h; subst h; rfl
  | tup ds => unfold Rep at h; obtain ⟨a, vs, rfl, _⟩ := h; rfl
  | lst ds => unfold Rep at h; obtain ⟨a, vs, rfl, _⟩ := h; rfl
  | obj c fs => unfold Rep at h; obtain ⟨a, dx, vs, rfl, _⟩ := h; rfl
  | scr ns => unfold Rep at h; obtain ⟨a, rfl, _⟩ := h; rfl
  | _ => unfold Rep at h; subst h; rfl
theorem isNon_vr {F H : Hp} {d : D} {v : V} (h : VR g F H d v) : decide (v = .non) = isNon d := by
  rcases h with ⟨ds, a, vs, rfl, rfl, _⟩ | h
  · rfl
  · exact isNon_rep h
theorem ok_lt : OpOk g X (compareOp .Lt) dLt := by
  intro x y s F as μ H v u Q e sr hx hy k
  unfold dLt at e
  split at e
  · cases e
    cases vr_int hx
    cases vr_int hy
    exact oc op_lt ⟨_, _, rfl, rfl, k F as _ H .refl sr ra_bl⟩
  · cases e
    cases vr_str hx
    cases vr_str hy
    exact oc op_lt_str ⟨_, _, rfl, rfl, k F as _ H .refl sr ra_bl⟩
  · cases e
theorem ok_le : OpOk g X (compareOp .LtE) dLe := by
  intro x y s F as μ H v u Q e sr hx hy k
  unfold dLe at e
  split at e
  · cases e
    cases vr_int hx
    cases vr_int hy
    exact oc op_le ⟨_, _, rfl, rfl, k F as _ H .refl sr ra_bl⟩
  · cases e
theorem ok_gt : OpOk g X (compareOp .Gt) dGt := by
  intro x y s F as μ H v u Q e sr hx hy k
  unfold dGt at e
  split at e
  · cases e
    cases vr_int hx
    cases vr_int hy
    exact oc op_gt ⟨_, _, rfl, rfl, k F as _ H .refl sr ra_bl⟩
  · cases e
theorem ok_ge : OpOk g X (compareOp .GtE) dGe := by
  intro x y s F as μ H v u Q e sr hx hy k
  unfold dGe at e
  split at e
  · cases e
    cases vr_int hx
    cases vr_int hy
    exact oc op_ge ⟨_, _, rfl, rfl, k F as _ H .refl sr ra_bl⟩
  · cases e
theorem ok_is : OpOk g X (compareOp .Is) dIs := by
  intro x y s F as μ H v u Q e sr hx hy k
  unfold dIs at e
  split at e
  · cases e
    cases vr_non hy
    refine oc op_isN ⟨rfl, ?_⟩
    rw [isNon_vr hx]
    exact k F as _ H .refl sr ra_bl
  · cases e
theorem ok_isnot : OpOk g X (compareOp .IsNot) dIsNot := by
  intro x y s F as μ H v u Q e sr hx hy k
  unfold dIsNot at e
  split at e
  · cases e
    cases vr_non hy
    refine oc op_notN ⟨rfl, ?_⟩
    rw [isNon_vr hx]
    exact k F as _ H .refl sr ra_bl
  · cases e
theorem pyEq_some {x y : D} {b : Bool} (h : pyEq x y = some b) : ∃ p q, toPy x = some p ∧ toPy y = some q ∧ SeqAt.shaped p = true ∧ SeqAt.shaped q = true ∧ PyData.eqv p q = b := by
  unfold pyEq at h
  split at h
  · rename_i p q h1 h2
    split at h
    · rename_i hz
      cases h
      rw [Bool.and_eq_true] at hz
      exact ⟨p, q, h1, h2, hz.1, hz.2, rfl⟩
    · cases h
  · cases h
theorem ok_eq (hg : g.K = X.K) (hu : X.A.units + 64 < cLine) : OpOk g X (compareOp .Eq) dEq := by
  intro x y s F as μ H v u Q e sr hx hy k
  obtain ⟨b, h, rfl⟩ := Option.map_eq_some_iff.mp e
  obtain ⟨p, q, h1, h2, h3, h4, rfl⟩ := pyEq_some h
  exact oc (op_eqD hu) ⟨p, q, hg ▸ toPy_vr sr h1 hx, hg ▸ toPy_vr sr h2 hy, h3, h4, k F as _ H .refl sr ra_bl⟩
theorem ok_ne (hg : g.K = X.K) (hu : X.A.units + 64 < cLine) : OpOk g X (compareOp .NotEq) dNe := by
  intro x y s F as μ H v u Q e sr hx hy k
  obtain ⟨b, h, rfl⟩ := Option.map_eq_some_iff.mp e
  obtain ⟨p, q, h1, h2, h3, h4, rfl⟩ := pyEq_some h
  exact oc (op_neD hu) ⟨p, q, hg ▸ toPy_vr sr h1 hx, hg ▸ toPy_vr sr h2 hy, h3, h4, k F as _ H .refl sr ra_bl⟩
theorem ok_in (hg : g.K = X.K) (hu : X.A.units + 65 < cLine) : OpOk g X (compareOp .In) dIn := by
  intro x y s F as μ H v u Q e sr hx hy k
  obtain ⟨b, h, rfl⟩ := Option.map_eq_some_iff.mp e
  unfold pyIn at h
  split at h
  · cases h
    cases vr_str hx
    cases vr_str hy
    exact oc op_in_str ⟨_, _, rfl, rfl, k F as _ H .refl sr ra_bl⟩
  · rename_i ds
    split at h
    · rename_i p ps h1 h2
      split at h
      · rename_i hz
        cases h
        rw [Bool.and_eq_true] at hz
        have h3 : toPy (.lst ds) = some (.list ps) := by unfold toPy; rw [h2]
        exact oc (op_inD hu) ⟨p, ps, hg ▸ toPy_vr sr h1 hx, hg ▸ toPy_vr sr h3 hy, hz.1, hz.2, k F as _ H .refl sr ra_bl⟩
      · cases h
    · cases h
  · cases h
theorem ok_notin (hg : g.K = X.K) (hu : X.A.units + 65 < cLine) : OpOk g X (compareOp .NotIn) dNotIn := by
  intro x y s F as μ H v u Q e sr hx hy k
  obtain ⟨b, h, rfl⟩ := Option.map_eq_some_iff.mp e
  unfold pyIn at h
  split at h
  · cases h
    cases vr_str hx
    cases vr_str hy
    exact oc L2.op_notin_str ⟨_, _, rfl, rfl, k F as _ H .refl sr ra_bl⟩
  · rename_i ds
    split at h
    · rename_i p ps h1 h2
      split at h
      · rename_i hz
        cases h
        rw [Bool.and_eq_true] at hz
        have h3 : toPy (.lst ds) = some (.list ps) := by unfold toPy; rw [h2]
        exact oc (op_notInD hu) ⟨p, ps, hg ▸ toPy_vr sr h1 hx, hg ▸ toPy_vr sr h3 hy, hz.1, hz.2, k F as _ H .refl sr ra_bl⟩
      · cases h
    · cases h
  · cases h
end
end Sz

set_option Elab.async false
set_option linter.all false
set_option maxRecDepth 100000
set_option maxHeartbeats 4000000
/-! Sz E: argument lists, displays, built-in calls, isinstance, places, attributes. -/
namespace Sz
open PySem PySem.Spec L2

def notStar : Expr → Bool
  | .Starred _ _ => false
  | _ => true
theorem starEach_cons {e : Expr} {es : List Expr} {env : PySem.Env} (h : notStar e = true) : starEach (e :: es) env = (false, eval e env) :: starEach es env := by
  cases e <;> first | rfl | (exact absurd (show false = true from h) Bool.false_ne_true)
theorem starEach_plain : ∀ {es : List Expr} {env : PySem.Env} {pos : Pos}, es.all notStar = true → (backTo pos (starEach es env)).any (·.1) = false
  | [], _, _, _ => rfl
  | e :: es, env, pos, h => by
    rw [List.all_cons, Bool.and_eq_true] at h
    rw [starEach_cons h.1]
    show (false || (backTo pos (starEach es env)).any (·.1)) = false
    rw [starEach_plain h.2]; rfl

/-! ### argument lists -/
def mArgs : List ME → MA
  | [] => fun _ μ => some (.ok [], μ)
  | m :: ms => fun ρ μ => andThen (m ρ μ) fun s μ1 => andThen (mArgs ms ρ μ1) fun ss μ2 => some (.ok (rt s :: ss), μ2)
section
variable {g : G} {X : Cx} {W : WX} {e : Expr} {es : List Expr} {m : ME} {ms : List ME} {pos : Pos}
theorem sa_nil : SA g X W [] (mArgs []) := by
  refine ⟨fun F as ρ μ σ H Q r μ' h sr er post => wA pa_nil ?_⟩
  cases h
  exact post F as [] H .refl sr .nil
theorem sa_cons (hn : notStar e = true) (h1 : SE g X W e m) (h2 : SA g X W es (mArgs ms)) : SA g X W (e :: es) (mArgs (m :: ms)) := by
  refine ⟨fun F as ρ μ σ H Q r μ' h sr er post => wA (pa_cons pe_wp pa_wp (starEach_cons hn)) ?_⟩
  refine h1.then_ (show andThen _ _ = some (r, μ') from h) sr er (fun x e => by subst e; exact post) fun s1 μ1 F1 as1 v1 H1 h3 x1 sr1 er1 ra1 => ?_
  obtain ⟨F1', x1', sr1', rs1⟩ := root_ok sr1 ra1
  refine h2.then_ h3 sr1' (er1.mono x1') (fun x e => by subst e; exact PErr.ext (x1.trans x1') post) fun ss μ2 F2 as2 vs H2 h4 x2 sr2 er2 rs2 => ?_
  cases h4
  exact post F2 as2 _ H2 ((x1.trans x1').trans x2) sr2 (.cons (rs1.mono x2) rs2)
end

/-! ### displays -/
def finL (ss : List S) (μ : Sto) : Option R := match toDs μ ss with
  | some (ds, μ2) => if ds.length ≤ sizeLine then some (.ok (.fr ds), μ2) else none
  | none => none
def finT (ss : List S) (μ : Sto) : Option R := match toDs μ ss with
  | some (ds, μ2) => if ds.length ≤ sizeLine then some (.ok (.val (.tup ds)), μ2) else none
  | none => none
def mList (ms : List ME) : ME := fun ρ μ => andThen (mArgs ms ρ μ) finL
def mTup (ms : List ME) : ME := fun ρ μ => andThen (mArgs ms ρ μ) finT
section
variable {g : G} {X : Cx} {W : WX} {e : Expr} {es : List Expr} {m : ME} {ms : List ME} {pos : Pos}
theorem se_lst (ha : SA g X W es (mArgs ms)) : SE g X W (.List es pos) (mList ms) := by
  refine ⟨fun F as ρ μ σ H Q r μ' h sr er post => wE (pe_lst pa_wp) ?_⟩
  refine ha.then_ (show andThen _ _ = some (r, μ') from h) sr er (fun x e => by subst e; exact post) fun ss μ1 F1 as1 vs H1 h1 x1 sr1 er1 rs1 => ?_
  unfold finL at h1
  split at h1
  · rename_i ds μ2 hd
    split at h1
    · rename_i hz
      cases h1
      obtain ⟨F2, x2, sr2, r2⟩ := toDs_rs sr1 rs1 hd
      refine ⟨by rw [r2.length]; exact hz, fun p hp => ?_⟩
      obtain ⟨sr3, f, n⟩ := sr2.loose (o := .lst vs) hp
      exact post F2 as1 _ _ (x1.trans x2) sr3 (ra_lst upd_same f n r2)
    · cases h1
  · cases h1
theorem se_tup {k : Nat} (ha : SA g X W es (mArgs ms)) : SE g X W (.Tuple es k pos) (mTup ms) := by
  refine ⟨fun F as ρ μ σ H Q r μ' h sr er post => wE (pe_tup pa_wp) ?_⟩
  refine ha.then_ (show andThen _ _ = some (r, μ') from h) sr er (fun x e => by subst e; exact post) fun ss μ1 F1 as1 vs H1 h1 x1 sr1 er1 rs1 => ?_
  unfold finT at h1
  split at h1
  · rename_i ds μ2 hd
    split at h1
    · rename_i hz
      cases h1
      obtain ⟨F2, x2, sr2, r2⟩ := toDs_rs sr1 rs1 hd
      refine ⟨by rw [r2.length]; exact hz, fun p hp => ?_⟩
      obtain ⟨sr3, x3, y3⟩ := sr2.frozen (o := .tup vs) hp
      refine post _ as1 _ _ ((x1.trans x2).trans x3) sr3 ?_
      show Rep g _ (.tup ds) _
      unfold Rep
      exact ⟨p, vs, rfl, SqT.of y3, r2.mono x3.1⟩
    · cases h1
  · cases h1
end

/-! ### calls of built-ins -/
def CallOk (g : G) (X : Cx) (f : Value) (op : List D → Option S) : Prop :=
  ∀ (xs : List D) (s : S) (F : Hp) (as : List Addr) (μ : Sto) (H : Hp) (vs : List V) (Q : VK), op xs = some s → SR g F as μ H → VRs g F H xs vs →
    (∀ F' as' w H', Ext F as F' as' → SR g F' as' μ H' → RA g F' as' H' s w → Q w H') → ∀ (pins : List (Addr × Obj)) (st : Shared) (σ : L2.St) (us : List Value), Inv X pins σ H st → Vals vs us → wpAny (model X.prog X.w) X.A (call f us) (EP X pins σ Q) X.xe st
def finB (op : List D → Option S) (ss : List S) (μ : Sto) : Option R := match vws μ ss with
  | some xs => (match op xs with
    | some s => some (.ok s, μ)
    | none => none)
  | none => none
def mCallB (op : List D → Option S) (ms : List ME) : ME := fun ρ μ => andThen (mArgs ms ρ μ) (finB op)
theorem finB_some {op : List D → Option S} {ss : List S} {μ μ' : Sto} {r : Except Ex S} (h : finB op ss μ = some (r, μ')) : ∃ xs s, vws μ ss = some xs ∧ op xs = some s ∧ r = .ok s ∧ μ' = μ := by
  unfold finB at h
  split at h
  · rename_i xs h1
    split at h
    · rename_i s h2
      cases h
      exact ⟨xs, s, h1, h2, rfl, rfl⟩
    · cases h
  · cases h
section
variable {g : G} {X : Cx} {W : WX} {e : Expr} {es : List Expr} {ms : List ME} {pos p : Pos} {x : Str} {op : List D → Option S} {id T : String}
abbrev ccan (X : Cx) (f : Value) : List V → Hp → VK → Prop := fun vs H Q => ∀ (pins : List (Addr × Obj)) (st : Shared) (σ : L2.St) (us : List Value), Inv X pins σ H st → Vals vs us → wpAny (model X.prog X.w) X.A (call f us) (EP X pins σ Q) X.xe st
theorem call_can {f : Value} : CallR X f (ccan X f) := fun pins s σ H xs us Q I r h => h pins s σ us I r
theorem cc {f : Value} {r : List V → Hp → VK → Prop} (h : CallR X f r) {vs : List V} {H : Hp} {Q : VK} (q : r vs H Q) : ccan X f vs H Q := fun pins s σ us I rr => h pins s σ H vs us Q I rr q
theorem callB_ok {f : Value} (ho : CallOk g X f op) (ha : SA g X W es (mArgs ms)) {F : Hp} {as : List Addr} {ρ : En} {μ : Sto} {σ : L2.St} {H : Hp} {Q : VK} {r : Except Ex S} {μ' : Sto}
    (h : mCallB op ms ρ μ = some (r, μ')) (sr : SR g F as μ H) (er : ER g F as ρ σ) (post : PostE g W F as σ Q r μ') : tCB (ccan X f) (wpA X es) σ H Q := by
  refine ha.then_ (show andThen _ _ = some (r, μ') from h) sr er (fun x e => by subst e; exact post) fun ss μ1 F1 as1 vs H1 h1 x1 sr1 er1 rs1 => ?_
  obtain ⟨xs, s, e1, e2, e3, e4⟩ := finB_some h1
  subst e3 e4
  exact ho xs s F1 as1 μ' H1 vs Q e2 sr1 (views_rs sr1 rs1 e1) fun F' as' w H' e' r' q => post F' as' w H' (x1.trans e') r' q
theorem se_callB (ho : CallOk g X (.builtin id) op) (hg : Gl X x) (hm : X.mg x = none) (hv : bootBuiltins x = some (.builtin id)) (hn : x ≠ "__name__") (hdb : (x == ("__debug__" : Str)) = false) (hst : (e :: es).all notStar = true)
    (ha : SA g X W (e :: es) (mArgs ms)) : SE g X W (.Call (.Name x p) (e :: es) [] pos) (mCallB op ms) := by
  rw [List.all_cons, Bool.and_eq_true] at hst
  exact ⟨fun F as ρ μ σ H Q r μ' h sr er post => wE (pe_callB call_can hg hm hv pa_wp hn hdb (starEach_cons hst.1) (starEach_plain hst.2)) (callB_ok ho ha h sr er post)⟩
theorem se_callTy (ho : CallOk g X (.type T) op) (hg : Gl X x) (hm : X.mg x = none) (hv : bootBuiltins x = some (.type T)) (hn : x ≠ "__name__") (hdb : (x == ("__debug__" : Str)) = false) (hst : (e :: es).all notStar = true)
    (ha : SA g X W (e :: es) (mArgs ms)) : SE g X W (.Call (.Name x p) (e :: es) [] pos) (mCallB op ms) := by
  rw [List.all_cons, Bool.and_eq_true] at hst
  exact ⟨fun F as ρ μ σ H Q r μ' h sr er post => wE (pe_callTy call_can hg hm hv pa_wp hn hdb (starEach_cons hst.1) (starEach_plain hst.2)) (callB_ok ho ha h sr er post)⟩
theorem vrs1 {F H : Hp} {d : D} {vs : List V} (h : VRs g F H [d] vs) : ∃ v, vs = [v] ∧ VR g F H d v := by
  cases h with
  | cons h t => cases t; exact ⟨_, rfl, h⟩
theorem vrs2 {F H : Hp} {d d' : D} {vs : List V} (h : VRs g F H [d, d'] vs) : ∃ v u, vs = [v, u] ∧ VR g F H d v ∧ VR g F H d' u := by
  cases h with
  | cons h t => cases t with
    | cons h' t => cases t; exact ⟨_, _, rfl, h, h'⟩
end
def bLen : List D → Option S
  | [.str x] => if x.length ≤ sizeLine then some (.val (.int x.length)) else none
  | [.lst ds] => some (.val (.int ds.length))
  | [.tup ds] => some (.val (.int ds.length))
  | [.scr ns] => some (.val (.int ns.length))
  | _ => none
def bAbs : List D → Option S
  | [.int i] => some (.val (.int (if i < 0 then -i else i)))
  | _ => none
def bMin : List D → Option S
  | [.int i, .int j] => some (.val (.int (if j < i then j else i)))
  | _ => none
def bMax : List D → Option S
  | [.int i, .int j] => some (.val (.int (if j > i then j else i)))
  | _ => none
def bInt : List D → Option S
  | [.int i] => some (.val (.int i))
  | [.bl b] => some (.val (.int (if b then 1 else 0)))
  | [.str x] => match PySem.intText? x with
    | some n => if x.length ≤ 640 then some (.val (.int n)) else none
    | none => none
  | _ => none
def bBool : List D → Option S
  | [.int i] => some (.val (.bl (i != 0)))
  | [.bl b] => some (.val (.bl b))
  | _ => none
def bStr : List D → Option S
  | [.int i] => if i.natAbs.log2 < 1920 then some (.val (.str (toString i))) else none
  | _ => none
def bList : List D → Option S
  | [.lst ds] => some (.fr ds)
  | [.tup ds] => some (.fr ds)
  | [.scr ns] => some (.fr (ns.map .int))
  | _ => none
def bTuple : List D → Option S
  | [.lst ds] => some (.val (.tup ds))
  | [.tup ds] => some (.val (.tup ds))
  | _ => none
def bls? : List D → Option (List Bool)
  | [] => some []
  | .bl b :: ds => (bls? ds).map (b :: ·)
  | _ => none
def bAll : List D → Option S
  | [.lst ds] => (bls? ds).map fun bs => .val (.bl (bs.all id))
  | _ => none
def bAny : List D → Option S
  | [.lst ds] => (bls? ds).map fun bs => .val (.bl (bs.any id))
  | _ => none
section
variable {g : G} {X : Cx}
theorem bls_rep {F : Hp} : ∀ {ds : List D} {bs : List Bool} {vs : List V}, bls? ds = some bs → Reps g F ds vs → vs = bs.map V.bl
  | [], bs, vs, h, r => by
    unfold bls? at h
    cases h
    exact Reps.nil_iff.mp r
  | d :: ds, bs, vs, h, r => by
    cases d with
    | bl b =>
      unfold bls? at h
      obtain ⟨bs', h1, rfl⟩ := Option.map_eq_some_iff.mp h
      obtain ⟨v, r', rfl, h2, h3⟩ := Reps.cons_iff.mp r
      unfold Rep at h2
      rw [h2, bls_rep h1 h3]
      rfl
    | _ => unfold bls? at h; cases h
theorem ints_rep {F : Hp} : ∀ {ns : List Int}, Reps g F (ns.map D.int) (ns.map V.int)
  | [] => Reps.nil
  | n :: ns => Reps.cons (by unfold Rep; rfl) ints_rep
theorem co_len (hg : g.K = X.K) : CallOk g X (.builtin "len") bLen := by
  intro xs s F as μ H vs Q e sr hx k
  unfold bLen at e
  split at e
  · obtain ⟨v, rfl, h⟩ := vrs1 hx
    cases vr_str h
    split at e
    · rename_i hz
      cases e
      exact cc call_len ⟨_, _, rfl, ⟨hz, rfl⟩, k F as _ H .refl sr ra_int⟩
    · cases e
  · cases e
    obtain ⟨v, rfl, h⟩ := vrs1 hx
    obtain ⟨a, us, rfl, h1, h2⟩ := vr_lst sr h
    refine cc call_len ⟨_, us.length, rfl, .inl ⟨us, SqL.of h1, rfl⟩, ?_⟩
    rw [h2.length]
    exact k F as _ H .refl sr ra_int
  · cases e
    obtain ⟨v, rfl, h⟩ := vrs1 hx
    obtain ⟨a, us, rfl, h1, h2⟩ := vr_tup sr h
    refine cc call_len ⟨_, us.length, rfl, .inr ⟨us, hg ▸ h1, rfl⟩, ?_⟩
    rw [h2.length]
    exact k F as _ H .refl sr ra_int
  · cases e
    obtain ⟨v, rfl, h⟩ := vrs1 hx
    obtain ⟨a, rfl, h1⟩ := vr_scr sr h
    refine cc call_len ⟨_, _, rfl, .inl ⟨_, hg ▸ h1, rfl⟩, ?_⟩
    rw [List.length_map]
    exact k F as _ H .refl sr ra_int
  · cases e
theorem co_abs : CallOk g X (.builtin "abs") bAbs := by
  intro xs s F as μ H vs Q e sr hx k
  unfold bAbs at e
  split at e
  · cases e
    obtain ⟨v, rfl, h⟩ := vrs1 hx
    cases vr_int h
    exact cc call_abs ⟨_, rfl, k F as _ H .refl sr ra_int⟩
  · cases e
theorem co_min (hc : X.calm = true) : CallOk g X (.builtin "min") bMin := by
  intro xs s F as μ H vs Q e sr hx k
  unfold bMin at e
  split at e
  · cases e
    obtain ⟨v, u, rfl, h, h'⟩ := vrs2 hx
    cases vr_int h
    cases vr_int h'
    exact cc (call_min2 hc) ⟨_, _, rfl, k F as _ H .refl sr ra_int⟩
  · cases e
theorem co_max (hc : X.calm = true) : CallOk g X (.builtin "max") bMax := by
  intro xs s F as μ H vs Q e sr hx k
  unfold bMax at e
  split at e
  · cases e
    obtain ⟨v, u, rfl, h, h'⟩ := vrs2 hx
    cases vr_int h
    cases vr_int h'
    exact cc (call_max2 hc) ⟨_, _, rfl, k F as _ H .refl sr ra_int⟩
  · cases e
theorem co_int : CallOk g X (.type "int") bInt := by
  intro xs s F as μ H vs Q e sr hx k
  unfold bInt at e
  split at e
  · cases e
    obtain ⟨v, rfl, h⟩ := vrs1 hx
    cases vr_int h
    exact cc call_int1 (.inl ⟨_, rfl, k F as _ H .refl sr ra_int⟩)
  · cases e
    obtain ⟨v, rfl, h⟩ := vrs1 hx
    cases vr_bl h
    exact cc call_int1 (.inr ⟨_, rfl, k F as _ H .refl sr ra_int⟩)
  · obtain ⟨v, rfl, h⟩ := vrs1 hx
    cases vr_str h
    split at e
    · rename_i n hn
      split at e
      · rename_i hz
        cases e
        exact cc call_int_str ⟨_, _, rfl, hn, hz, k F as _ H .refl sr ra_int⟩
      · cases e
    · cases e
  · cases e
theorem co_bool : CallOk g X (.type "bool") bBool := by
  intro xs s F as μ H vs Q e sr hx k
  unfold bBool at e
  split at e
  · cases e
    obtain ⟨v, rfl, h⟩ := vrs1 hx
    cases vr_int h
    exact cc call_bool1 (.inl ⟨_, rfl, k F as _ H .refl sr ra_bl⟩)
  · cases e
    obtain ⟨v, rfl, h⟩ := vrs1 hx
    cases vr_bl h
    exact cc call_bool1 (.inr ⟨_, rfl, k F as _ H .refl sr ra_bl⟩)
  · cases e
theorem co_str : CallOk g X (.type "str") bStr := by
  intro xs s F as μ H vs Q e sr hx k
  unfold bStr at e
  split at e
  · split at e
    · rename_i hz
      cases e
      obtain ⟨v, rfl, h⟩ := vrs1 hx
      cases vr_int h
      exact cc call_str_int ⟨_, rfl, hz, k F as _ H .refl sr ra_str⟩
    · cases e
  · cases e
theorem co_list (hg : g.K = X.K) : CallOk g X (.type "list") bList := by
  intro xs s F as μ H vs Q e sr hx k
  unfold bList at e
  split at e
  · cases e
    obtain ⟨v, rfl, h⟩ := vrs1 hx
    obtain ⟨a, us, rfl, h1, h2⟩ := vr_lst sr h
    refine cc call_list_of ⟨_, us, rfl, .inl (SqL.of h1), fun p hp => ?_⟩
    obtain ⟨sr', f, n⟩ := sr.loose (o := .lst us) hp
    exact k F as _ _ .refl sr' (ra_lst upd_same f n h2)
  · cases e
    obtain ⟨v, rfl, h⟩ := vrs1 hx
    obtain ⟨a, us, rfl, h1, h2⟩ := vr_tup sr h
    refine cc call_list_of ⟨_, us, rfl, .inr (hg ▸ h1), fun p hp => ?_⟩
    obtain ⟨sr', f, n⟩ := sr.loose (o := .lst us) hp
    exact k F as _ _ .refl sr' (ra_lst upd_same f n h2)
  · cases e
    obtain ⟨v, rfl, h⟩ := vrs1 hx
    obtain ⟨a, rfl, h1⟩ := vr_scr sr h
    refine cc call_list_of ⟨_, _, rfl, .inl (hg ▸ h1), fun p hp => ?_⟩
    obtain ⟨sr', f, n⟩ := sr.loose (o := .lst _) hp
    exact k F as _ _ .refl sr' (ra_lst upd_same f n ints_rep)
  · cases e
theorem co_tuple (hg : g.K = X.K) : CallOk g X (.type "tuple") bTuple := by
  intro xs s F as μ H vs Q e sr hx k
  unfold bTuple at e
  split at e
  · rename_i ds
    cases e
    obtain ⟨v, rfl, h⟩ := vrs1 hx
    obtain ⟨a, us, rfl, h1, h2⟩ := vr_lst sr h
    refine cc call_tuple_of ⟨_, us, rfl, .inl ⟨SqL.of h1, fun p hp => ?_⟩⟩
    obtain ⟨sr', x', y'⟩ := sr.frozen (o := .tup us) hp
    refine k _ as _ _ x' sr' ?_
    show Rep g _ (.tup ds) _
    unfold Rep
    exact ⟨p, us, rfl, SqT.of y', h2.mono x'.1⟩
  · rename_i ds
    cases e
    obtain ⟨v, rfl, h⟩ := vrs1 hx
    obtain ⟨a, us, rfl, h1, h2⟩ := vr_tup sr h
    refine cc call_tuple_of ⟨_, us, rfl, .inr ⟨hg ▸ h1, ?_⟩⟩
    rcases h with ⟨_, _, _, e', _⟩ | h
    · cases e'
    · exact k F as _ H .refl sr h
  · cases e
theorem co_all (hc : X.calm = true) : CallOk g X (.builtin "all") bAll := by
  intro xs s F as μ H vs Q e sr hx k
  unfold bAll at e
  split at e
  · obtain ⟨bs, hb, rfl⟩ := Option.map_eq_some_iff.mp e
    obtain ⟨v, rfl, h⟩ := vrs1 hx
    obtain ⟨a, us, rfl, h1, h2⟩ := vr_lst sr h
    rw [bls_rep hb h2] at h1
    exact cc (cr_all hc) ⟨_, _, rfl, SqL.of h1, k F as _ H .refl sr ra_bl⟩
  · cases e
theorem co_any (hc : X.calm = true) : CallOk g X (.builtin "any") bAny := by
  intro xs s F as μ H vs Q e sr hx k
  unfold bAny at e
  split at e
  · obtain ⟨bs, hb, rfl⟩ := Option.map_eq_some_iff.mp e
    obtain ⟨v, rfl, h⟩ := vrs1 hx
    obtain ⟨a, us, rfl, h1, h2⟩ := vr_lst sr h
    rw [bls_rep hb h2] at h1
    exact cc (cr_any hc) ⟨_, _, rfl, SqL.of h1, k F as _ H .refl sr ra_bl⟩
  · cases e
end

/-! ### isinstance -/
def tyNames : List String := ["NoneType", "bool", "int", "str", "list", "tuple", "dict"]
/-- of two built-in types -/
def tyIs (a b : String) : Option Bool :=
  if tyNames.contains a && ["bool", "int", "str", "list", "tuple", "dict"].contains b then some (a == b || (a == "bool" && b == "int")) else none
theorem tyIs_kit {K : PySem.W.Frag} {a b : String} {r : Bool} (h : tyIs a b = some r) : PySem.W.kitOne K (.type a) (.type b) = some r := by
  refine kit_ty ?_
  unfold tyIs at h
  split at h
  · rename_i hz
    rw [Bool.and_eq_true] at hz
    have h1 := hz.1
    have h2 := hz.2
    simp only [tyNames, List.contains_cons, List.contains_nil, Bool.or_false, Bool.or_eq_true, beq_iff_eq] at h1 h2
    rcases h1 with rfl | rfl | rfl | rfl | rfl | rfl | rfl <;> rcases h2 with rfl | rfl | rfl | rfl | rfl | rfl <;> (cases h; decide +kernel)
  · cases h
/-- what the head must tell of the classes: n plain ones, m in all -/
structure KitF (g : G) (n m : Nat) (sub : Nat → Nat → Bool) : Prop where
  cls : ∀ c, c < n → Cls g.K (g.cad c)
  ha : ∀ c, c < n → PySem.W.findIn g.K (.ref (g.cad c)) "__class__" = some (some (.builtin "object.__class__"))
  hn : 0 < n → PySem.W.specialIn g.K (.builtin "object.__class__") "__get__" = some (some (.builtin "getset_descriptor.__get__"))
  htk : 0 < n → PySem.W.takesIn g.K (.builtin "object.__class__") = some true
  hm : ∀ c, c < n → PySem.W.mroIn g.K (g.cad c) (.type "object") = some true
  ty : ∀ c T, c < m → tyNames.contains T = true → PySem.W.kitOne g.K (.type T) (.ref (g.cad c)) = some false
  own : ∀ c c', c < n → c' < m → PySem.W.kitOne g.K (.ref (g.cad c)) (.ref (g.cad c')) = some (sub c c')
  bl : ∀ c T, c < n → ["bool", "int", "str", "list", "tuple", "dict"].contains T = true → PySem.W.kitOne g.K (.ref (g.cad c)) (.type T) = some false
def dTy : D → Option String
  | .non => some "NoneType"
  | .bl _ => some "bool"
  | .int _ => some "int"
  | .str _ => some "str"
  | .tup _ => some "tuple"
  | .lst _ => some "list"
  | .scr _ => some "list"
  | _ => none
def isOne (n m : Nat) (sub : Nat → Nat → Bool) (x c : D) : Option Bool := match x, c with
  | .obj i _, .cls j => if i < n ∧ j < m then some (sub i j) else none
  | .obj i _, .ty T => if i < n ∧ ["bool", "int", "str", "list", "tuple", "dict"].contains T = true then some false else none
  | x, .cls j => match dTy x with
    | some _ => if j < m then some false else none
    | none => none
  | x, .ty T => match dTy x with
    | some a => tyIs a T
    | none => none
  | _, _ => none
def bIsi (n m : Nat) (sub : Nat → Nat → Bool) : List D → Option S
  | [x, c] => (isOne n m sub x c).map fun b => .val (.bl b)
  | _ => none
section
variable {g : G} {X : Cx} {n m : Nat} {sub : Nat → Nat → Bool}
theorem dTy_in {x : D} {a : String} (h : dTy x = some a) : tyNames.contains a = true := by
  cases x <;> first | (cases h; decide) | (cases h)
theorem dTy_ty {F H : Hp} {as : List Addr} {μ : Sto} {x : D} {a : String} {v : V} (hg : g.K = X.K) (sr : SR g F as μ H) (h : dTy x = some a) (r : VR g F H x v) : TyX X.K H v (.type a) := by
  cases x with
  | non => cases h; cases vr_non r; exact .base .non
  | bl b => cases h; cases vr_bl r; exact .base (.bl b)
  | int i => cases h; cases vr_int r; exact .base (.int i)
  | str z => cases h; cases vr_str r; exact .base (.str z)
  | lst ds => cases h; obtain ⟨a, vs, rfl, h1, _⟩ := vr_lst sr r; exact .base (.lst h1)
  | tup ds =>
    cases h
    obtain ⟨a, vs, rfl, h1, _⟩ := vr_tup sr r
    rcases h1 with (h1 | ⟨o, h1⟩) | ⟨o, its, k, h1, h2, _⟩
    · exact .base (.tup h1)
    · exact .fTuple h1
    · exact .kTuple (hg ▸ h1) h2
  | scr ns =>
    cases h
    obtain ⟨a, rfl, h1⟩ := vr_scr sr r
    rcases h1 with (h1 | ⟨o, h1⟩) | ⟨o, its, k, h1, h2, _⟩
    · exact .base (.lst h1)
    · exact .base (.frz h1)
    · exact .kList (hg ▸ h1) h2
  | _ => cases h
theorem vr_obj {F H : Hp} {as : List Addr} {μ : Sto} {c : Nat} {fs : List D} {v : V} (sr : SR g F as μ H) (h : VR g F H (.obj c fs) v) : ∃ a dx vs, v = .ref a ∧ H a = some (.ins (g.cad c) dx ((g.fl c).zip vs)) ∧ vs.length = (g.fl c).length ∧ Reps g F fs vs := by
  rcases h with ⟨_, _, _, e, _⟩ | h
  · cases e
  · unfold Rep at h
    obtain ⟨a, dx, vs, e1, e2, e3, e4⟩ := h
    exact ⟨a, dx, vs, e1, sr.sub _ _ e2, e3, e4⟩
theorem vr_cls {F H : Hp} {c : Nat} {v : V} (h : VR g F H (.cls c) v) : v = .ref (g.cad c) := by
  rcases h with ⟨_, _, _, e, _⟩ | h
  · cases e
  · unfold Rep at h; exact h
theorem vr_ty {F H : Hp} {T : String} {v : V} (h : VR g F H (.ty T) v) : v = .ty T := by
  rcases h with ⟨_, _, _, e, _⟩ | h
  · cases e
  · unfold Rep at h; exact h
theorem co_isi (hg : g.K = X.K) (kf : KitF g n m sub) : CallOk g X (.builtin "isinstance") (bIsi n m sub) := by
  intro xs s F as μ H vs Q e sr hx k
  unfold bIsi at e
  split at e
  · rename_i x c
    obtain ⟨b, h, rfl⟩ := Option.map_eq_some_iff.mp e
    obtain ⟨v, u, rfl, h1, h2⟩ := vrs2 hx
    have fin : Q (.bl b) H := k F as _ H .refl sr ra_bl
    unfold isOne at h
    split at h
    · rename_i i fs j
      split at h
      · rename_i hz
        cases h
        obtain ⟨a, dx, us, rfl, e1, _, _⟩ := vr_obj sr h1
        cases vr_cls h2
        refine cc call_isi ⟨_, _, _, _, _, rfl, .own _, .base (.ins e1 ?_ ?_ ?_ ?_ ?_), ?_, fin⟩
        · exact hg ▸ kf.cls i hz.1
        · exact hg ▸ kf.ha i hz.1
        · exact hg ▸ kf.hn (Nat.lt_of_le_of_lt (Nat.zero_le _) hz.1)
        · exact hg ▸ kf.htk (Nat.lt_of_le_of_lt (Nat.zero_le _) hz.1)
        · exact hg ▸ kf.hm i hz.1
        · exact hg ▸ kf.own i j hz.1 hz.2
      · cases h
    · rename_i i fs T
      split at h
      · rename_i hz
        cases h
        obtain ⟨a, dx, us, rfl, e1, _, _⟩ := vr_obj sr h1
        cases vr_ty h2
        refine cc call_isi ⟨_, _, _, _, _, rfl, .ty _, .base (.ins e1 ?_ ?_ ?_ ?_ ?_), ?_, fin⟩
        · exact hg ▸ kf.cls i hz.1
        · exact hg ▸ kf.ha i hz.1
        · exact hg ▸ kf.hn (Nat.lt_of_le_of_lt (Nat.zero_le _) hz.1)
        · exact hg ▸ kf.htk (Nat.lt_of_le_of_lt (Nat.zero_le _) hz.1)
        · exact hg ▸ kf.hm i hz.1
        · exact hg ▸ kf.bl i T hz.1 hz.2
      · cases h
    · rename_i j _
      split at h
      · rename_i a ha
        split at h
        · rename_i hz
          cases h
          cases vr_cls h2
          exact cc call_isi ⟨_, _, _, _, _, rfl, .own _, dTy_ty hg sr ha h1, hg ▸ kf.ty j a hz (dTy_in ha), fin⟩
        · cases h
      · cases h
    · split at h
      · rename_i a ha
        cases vr_ty h2
        exact cc call_isi ⟨_, _, _, _, _, rfl, .ty _, dTy_ty hg sr ha h1, tyIs_kit h, fin⟩
      · cases h
    · cases h
  · cases e
end

/-! ### places -/
def dIx : D → D → Option S
  | .lst ds, .int i => (atI ds i).map .val
  | .tup ds, .int i => (atI ds i).map .val
  | .scr ns, .int i => (atI ns i).map fun n => .val (.int n)
  | .str z, .int i => if z.length ≤ sizeLine then (atI z.cps.toList i).map fun c => .val (.str ⟨#[c]⟩) else none
  | _, _ => none
def notSlice : Expr → Bool
  | .Slice _ _ _ _ => false
  | _ => true
theorem plainIx {e : Expr} (h : notSlice e = true) : PlainIx e := by
  cases e <;> first | (exact fun _ _ => rfl) | (exact absurd (show false = true from h) Bool.false_ne_true)
section
variable {g : G} {X : Cx} {W : WX} {a b : Expr} {ma mb : ME} {pos : Pos}
theorem atI_reps {F : Hp} {ds : List D} {vs : List V} {i : Int} {d : D} (r : Reps g F ds vs) (h : atI ds i = some d) : ∃ v, atI vs i = some v ∧ Rep g F d v := by
  unfold atI at h ⊢
  obtain ⟨j, h1, h2⟩ := Option.bind_eq_some_iff.mp h
  obtain ⟨v, h3, h4⟩ := r.get h2
  refine ⟨v, ?_, h4⟩
  rw [r.length, h1]
  exact h3
theorem se_ix (hg : g.K = X.K) (ha : SE g X W a ma) (hb : SE g X W b mb) (hs : notSlice b = true) : SE g X W (.Subscript a b pos) (mOp2 dIx ma mb) := by
  refine ⟨fun F as ρ μ σ H Q r μ' h sr er post => wE (pe_ix ix_seq pe_wp pe_wp (plainIx hs)) ?_⟩
  refine ha.then_ (show andThen _ _ = some (r, μ') from h) sr er (fun x e => by subst e; exact post) fun s1 μ1 F1 as1 v1 H1 h1 x1 sr1 er1 ra1 => ?_
  obtain ⟨F1', x1', sr1', rs1⟩ := root_ok sr1 ra1
  refine hb.then_ h1 sr1' (er1.mono x1') (fun x e => by subst e; exact PErr.ext (x1.trans x1') post) fun s2 μ2 F2 as2 v2 H2 h2 x2 sr2 er2 ra2 => ?_
  obtain ⟨x, y, s, e1, e2, e3, e4, e5⟩ := fin2_some h2
  subst e4 e5
  have hx := view_rs sr2 (rs1.mono x2) e1
  have hy := view_ra sr2 ra2 e2
  have fin : ∀ w, RA g F2 as2 H2 s w → Q w H2 := fun w q => post F2 as2 w H2 ((x1.trans x1').trans x2) sr2 q
  unfold dIx at e3
  split at e3
  · obtain ⟨d, e6, rfl⟩ := Option.map_eq_some_iff.mp e3
    obtain ⟨p, vs, rfl, h3, h4⟩ := vr_lst sr2 hx
    cases vr_int hy
    obtain ⟨w, h5, h6⟩ := atI_reps h4 e6
    exact .inl ⟨p, vs, _, w, rfl, rfl, SqL.of h3, h5, fin w h6⟩
  · obtain ⟨d, e6, rfl⟩ := Option.map_eq_some_iff.mp e3
    obtain ⟨p, vs, rfl, h3, h4⟩ := vr_tup sr2 hx
    cases vr_int hy
    obtain ⟨w, h5, h6⟩ := atI_reps h4 e6
    exact .inr (.inl ⟨p, vs, _, w, rfl, rfl, hg ▸ h3, h5, fin w h6⟩)
  · obtain ⟨d, e6, rfl⟩ := Option.map_eq_some_iff.mp e3
    obtain ⟨p, rfl, h3⟩ := vr_scr sr2 hx
    cases vr_int hy
    refine .inl ⟨p, _, _, .int d, rfl, rfl, hg ▸ h3, ?_, fin _ ra_int⟩
    unfold atI at e6 ⊢
    obtain ⟨j, h5, h6⟩ := Option.bind_eq_some_iff.mp e6
    rw [List.length_map, h5]
    show (List.map V.int _)[j]? = _
    rw [List.getElem?_map, h6]
    rfl
  · split at e3
    · rename_i hz
      obtain ⟨d, e6, rfl⟩ := Option.map_eq_some_iff.mp e3
      cases vr_str hx
      cases vr_int hy
      exact .inr (.inr ⟨_, _, d, rfl, rfl, hz, e6, fin _ ra_str⟩)
    · cases e3
  · cases e3
end

/-! ### attributes of an instance -/
def notCall : Expr → Bool
  | .Call _ _ _ _ => false
  | _ => true
theorem attrBase {e : Expr} {f : Str} {env : PySem.Env} (h : notCall e = true) : attributeBase e f env (eval e env) = eval e env := by
  cases e <;> first | rfl | (exact absurd (show false = true from h) Bool.false_ne_true)
/-- the fields' places: of class c the name f is the k-th -/
def fldIx (fls : List (List Str)) (c : Nat) (f : Str) : Option Nat := match fls[c]? with
  | some l => l.idxOf? f
  | none => none
def insGet (f : Str) : List (Str × D) → Option D := List.lookup f
def finA (fls : List (List Str)) (f : Str) (s : S) (μ : Sto) : Option R := match s with
  | .val (.obj c fs) => (match fldIx fls c f with
    | some k => (match fs[k]? with
      | some d => some (.ok (.val d), μ)
      | none => none)
    | none => none)
  | .cell k => (match μ[k]? with
    | some (.ins c fs) => (match insGet f fs with
      | some d => if c < fls.length then some (.ok (.val d), μ) else none
      | none => none)
    | _ => none)
  | _ => none
def mAttr (fls : List (List Str)) (f : Str) (a : ME) : ME := fun ρ μ => andThen (a ρ μ) (finA fls f)
/-- the classes' fields as the head has them -/
structure FldF (g : G) (fls : List (List Str)) : Prop where
  fl : ∀ c l, fls[c]? = some l → g.fl c = l
  cls : ∀ c, c < fls.length → Cls g.K (g.cad c)
  no : ∀ c l f, fls[c]? = some l → f ∈ l → NoAttr g.K (g.cad c) f
theorem idxOf_lookup {l : List Str} {vs : List V} {f : Str} {k : Nat} {v : V} (h : l.idxOf? f = some k) (hv : vs[k]? = some v) : (l.zip vs).lookup f = some v := by
  induction l generalizing vs k with
  | nil => simp at h
  | cons x l ih =>
    rw [List.idxOf?_cons] at h
    cases vs with
    | nil => simp at hv
    | cons w vs =>
      by_cases e : x = f
      · subst e
        simp only [beq_self_eq_true, if_true, Option.some.injEq] at h
        subst h
        simp only [List.getElem?_cons_zero, Option.some.injEq] at hv
        subst hv
        simp [List.lookup]
      · have e1 : (x == f) = false := beq_eq_false_iff_ne.mpr e
        rw [e1] at h
        simp only [Bool.false_eq_true, if_false, Option.map_eq_some_iff] at h
        obtain ⟨j, h1, rfl⟩ := h
        rw [List.getElem?_cons_succ] at hv
        have e2 : (f == x) = false := beq_eq_false_iff_ne.mpr (fun z => e z.symm)
        show List.lookup f ((x, w) :: l.zip vs) = some v
        simp only [List.lookup, e2]
        exact ih h1 hv
theorem lookup_reps {g : G} {F : Hp} {f : Str} {d : D} : ∀ {fs : List (Str × D)} {vs : List V}, Reps g F (fs.map (·.2)) vs → fs.lookup f = some d → ∃ v, ((fs.map (·.1)).zip vs).lookup f = some v ∧ Rep g F d v
  | [], _, _, h => by cases h
  | (x, y) :: fs, vs, r, h => by
    obtain ⟨v, r', rfl, h1, h2⟩ := Reps.cons_iff.mp r
    simp only [List.map_cons, List.zip_cons_cons]
    by_cases e : f = x
    · subst e
      simp only [List.lookup, beq_self_eq_true, Option.some.injEq] at h ⊢
      subst h
      exact ⟨v, rfl, h1⟩
    · have e1 : (f == x) = false := beq_eq_false_iff_ne.mpr e
      simp only [List.lookup, e1] at h ⊢
      exact lookup_reps h2 h
theorem mem_idx {l : List Str} {f : Str} {k : Nat} (h : l.idxOf? f = some k) : f ∈ l := by
  induction l generalizing k with
  | nil => simp at h
  | cons x l ih =>
    rw [List.idxOf?_cons] at h
    by_cases e : x = f
    · subst e; exact List.mem_cons_self
    · have e1 : (x == f) = false := beq_eq_false_iff_ne.mpr e
      rw [e1] at h
      simp only [Bool.false_eq_true, if_false, Option.map_eq_some_iff] at h
      obtain ⟨j, h1, _⟩ := h
      exact List.mem_cons_of_mem _ (ih h1)
section
variable {g : G} {X : Cx} {W : WX} {a : Expr} {ma : ME} {pos : Pos} {f : Str} {fls : List (List Str)}
theorem se_attr (hg : g.K = X.K) (ff : FldF g fls) (hno : ∀ c, c < fls.length → NoAttr g.K (g.cad c) f) (ha : SE g X W a ma) (hs : notCall a = true) : SE g X W (.Attribute a f pos) (mAttr fls f ma) := by
  refine ⟨fun F as ρ μ σ H Q r μ' h sr er post => wE (pe_fld pe_wp (attrBase hs)) ?_⟩
  refine ha.then_ (show andThen _ _ = some (r, μ') from h) sr er (fun x e => by subst e; exact post) fun s1 μ1 F1 as1 v1 H1 h1 x1 sr1 er1 ra1 => ?_
  unfold finA at h1
  split at h1
  · rename_i c fs
    split at h1
    · rename_i k hk
      split at h1
      · rename_i d hd
        cases h1
        have r1 : Rep g F1 (.obj c fs) v1 := ra1
        obtain ⟨p, dx, vs, rfl, h2, h3, h4⟩ := vr_obj sr1 (.inr r1)
        obtain ⟨w, h5, h6⟩ := h4.get hd
        unfold fldIx at hk
        split at hk
        · rename_i l hl
          have hc : c < fls.length := (List.getElem?_eq_some_iff.mp hl).1
          rw [ff.fl c l hl] at h2
          refine ⟨p, _, dx, _, w, rfl, h2, hg ▸ ff.cls c hc, hg ▸ hno c hc, idxOf_lookup hk h5, post F1 as1 w H1 x1 sr1 h6⟩
        · cases hk
      · cases h1
    · cases h1
  · rename_i k
    split at h1
    · rename_i c fs hc
      split at h1
      · rename_i d hd
        split at h1
        · rename_i hlt
          cases h1
          obtain ⟨p, h2, rfl⟩ := (show ∃ p, as1[k]? = some p ∧ v1 = .ref p from ra1)
          obtain ⟨_, dx, vs, h3, h4, h5⟩ := sr1.cells k p _ h2 hc
          obtain ⟨w, h6, h7⟩ := lookup_reps h5 hd
          exact ⟨p, _, dx, _, w, rfl, h3, hg ▸ ff.cls c hlt, hg ▸ hno c hlt, h6, post F1 as1 w H1 x1 sr1 h7⟩
        · cases h1
      · cases h1
    · cases h1
  · cases h1
end
end Sz

set_option Elab.async false
set_option linter.all false
set_option maxRecDepth 100000
set_option maxHeartbeats 4000000
/-! Sz F: calls of the text's own defs, methods, classes. -/
namespace Sz
open PySem PySem.Spec L2

/-! ### keywords -/
def kwNames : List Keyword → Option (List Str)
  | [] => some []
  | ⟨some n, _, _⟩ :: r => (kwNames r).map (n :: ·)
  | _ => none
theorem kw_all {env : PySem.Env} {pos : Pos} : ∀ {kws : List Keyword} {ks : List Str}, kwNames kws = some ks →
    (backToKw pos (keywordEach kws env)).all (·.1.isSome) = true ∧ (backToKw pos (keywordEach kws env)).filterMap (·.1) = ks ∧ (backToKw pos (keywordEach kws env)).any (·.1.isNone) = false ∧ kws.length = ks.length
  | [], ks, h => by cases h; exact ⟨rfl, rfl, rfl, rfl⟩
  | ⟨none, _, _⟩ :: r, ks, h => by cases h
  | ⟨some n, v, p⟩ :: r, ks, h => by
    unfold kwNames at h
    obtain ⟨ks', h1, rfl⟩ := Option.map_eq_some_iff.mp h
    obtain ⟨a, b, c, d⟩ := kw_all (env := env) (pos := pos) h1
    refine ⟨?_, ?_, ?_, by rw [List.length_cons, List.length_cons, d]⟩
    · show (true && (backToKw pos (keywordEach r env)).all (·.1.isSome)) = true
      rw [a]; rfl
    · show n :: (backToKw pos (keywordEach r env)).filterMap (·.1) = n :: ks'
      rw [b]
    · show (false || (backToKw pos (keywordEach r env)).any (·.1.isNone)) = false
      rw [c]; rfl
section
variable {g : G} {X : Cx} {W : WX} {e : Expr} {m : ME} {ms : List ME} {kws : List Keyword} {nm : Option Str} {kpos : Pos}
theorem sk_nil : SK g X W [] (mArgs []) := by
  refine ⟨fun F as ρ μ σ H Q r μ' h sr er post => wK pk_nil ?_⟩
  cases h
  exact post F as [] H .refl sr .nil
theorem sk_cons (h1 : SE g X W e m) (h2 : SK g X W kws (mArgs ms)) : SK g X W (⟨nm, e, kpos⟩ :: kws) (mArgs (m :: ms)) := by
  refine ⟨fun F as ρ μ σ H Q r μ' h sr er post => wK (pk_cons pe_wp pk_wp) ?_⟩
  refine h1.then_ (show andThen _ _ = some (r, μ') from h) sr er (fun x e => by subst e; exact post) fun s1 μ1 F1 as1 v1 H1 h3 x1 sr1 er1 ra1 => ?_
  obtain ⟨F1', x1', sr1', rs1⟩ := root_ok sr1 ra1
  refine h2.then_ h3 sr1' (er1.mono x1') (fun x e => by subst e; exact PErr.ext (x1.trans x1') post) fun ss μ2 F2 as2 vs H2 h4 x2 sr2 er2 rs2 => ?_
  cases h4
  exact post F2 as2 _ H2 ((x1.trans x1').trans x2) sr2 (.cons (rs1.mono x2) rs2)
end

/-! ### binding -/
/-- the bound values in the parameters' order: positional, by name, defaults -/
def bindG {α : Type} (ks : List Str) (us ws dfl : List α) (np : Nat) : List Str → Nat → Option (List α)
  | [], _ => some []
  | p :: ps, i => match (match us[i]? with
      | some x => some x
      | none => match ks.idxOf? p with
        | some j => ws[j]?
        | none => dfl[i + dfl.length - np]?), bindG ks us ws dfl np ps (i + 1) with
    | some x, some r => some (x :: r)
    | _, _ => none
theorem Paired.len {α β : Type} {R : α → β → Prop} {xs : List α} {ys : List β} (h : Paired R xs ys) : xs.length = ys.length := Paired.length h
theorem paired_get {α β : Type} {R : α → β → Prop} : ∀ {xs : List α} {ys : List β} {i : Nat} {x : α}, Paired R xs ys → xs[i]? = some x → ∃ y, ys[i]? = some y ∧ R x y
  | _, _, _, _, .nil, e => by simp at e
  | _, _, 0, _, .cons r _, e => by simp at e; subst e; exact ⟨_, rfl, r⟩
  | _, _, i + 1, x, .cons _ t, e => by
    obtain ⟨u, h1, h2⟩ := paired_get (i := i) (x := x) t (by simpa using e)
    exact ⟨u, by simpa using h1, h2⟩
theorem bindG_ex {α β : Type} {R : α → β → Prop} {ks : List Str} {us ws dfl : List α} {us' ws' dfl' : List β} {np : Nat} (hu : Paired R us us') (hw : Paired R ws ws') (hd : Paired R dfl dfl') :
    ∀ {ps : List Str} {i : Nat} {b : List α}, bindG ks us ws dfl np ps i = some b → ∃ b', bindG ks us' ws' dfl' np ps i = some b' ∧ Paired R b b'
  | [], i, b, h => by
    cases h
    exact ⟨[], rfl, .nil⟩
  | p :: ps, i, b, h => by
    unfold bindG at h
    split at h
    · rename_i x r h1 h2
      cases h
      obtain ⟨b', e1, e2⟩ := bindG_ex hu hw hd h2
      have key : ∃ x', (match us'[i]? with
          | some x => some x
          | none => match ks.idxOf? p with
            | some j => ws'[j]?
            | none => dfl'[i + dfl'.length - np]?) = some x' ∧ R x x' := by
        cases q : us[i]? with
        | some y =>
          rw [q] at h1
          cases h1
          obtain ⟨y', q', r⟩ := paired_get hu q
          exact ⟨y', by rw [q'], r⟩
        | none =>
          have q' : us'[i]? = none := by
            rw [List.getElem?_eq_none_iff] at q ⊢
            rw [← Paired.length hu]; exact q
          rw [q] at h1
          rw [q']
          simp only at h1 ⊢
          cases z : ks.idxOf? p with
          | some j =>
            rw [z] at h1
            simp only at h1 ⊢
            exact paired_get hw h1
          | none =>
            rw [z] at h1
            simp only at h1 ⊢
            rw [← Paired.length hd]
            exact paired_get hd h1
      obtain ⟨x', k1, k2⟩ := key
      refine ⟨x' :: b', ?_, .cons k2 e2⟩
      unfold bindG
      rw [k1, e1]
    · cases h
theorem bindG_rel {α β : Type} {R : α → β → Prop} {ks : List Str} {us ws dfl : List α} {us' ws' dfl' : List β} {np : Nat} (hu : Paired R us us') (hw : Paired R ws ws') (hd : Paired R dfl dfl')
    {ps : List Str} {i : Nat} {b : List α} {b' : List β} (h : bindG ks us ws dfl np ps i = some b) (h' : bindG ks us' ws' dfl' np ps i = some b') : Paired R b b' := by
  obtain ⟨c, e1, e2⟩ := bindG_ex hu hw hd h
  rw [h'] at e1
  cases e1
  exact e2
/-- how a def's call of that shape binds -/
structure Bnd (K : PySem.W.Frag) (fd : FuncData) (ps : List Str) (n : Nat) (ks : List Str) (dvs : List V) : Prop where
  to : ∃ ds, Vals dvs ds ∧ ∀ (s : Shared) (us ws : List Value), K.In s.heap → us.length = n → ws.length = ks.length →
    ∃ b, bindG ks us ws ds ps.length ps 0 = some b ∧ BindsTo s fd ⟨us, ks.zip ws⟩ (ps.zip b)
theorem bindG_len {α : Type} {ks : List Str} {us ws dfl : List α} {np : Nat} : ∀ {ps : List Str} {i : Nat} {b : List α}, bindG ks us ws dfl np ps i = some b → b.length = ps.length
  | [], _, _, h => by cases h; rfl
  | p :: ps, i, b, h => by
    unfold bindG at h
    split at h
    · rename_i x r h1 h2
      cases h
      rw [List.length_cons, List.length_cons, bindG_len h2]
    · cases h

/-! ### what a def promises -/
def PostC (g : G) (F : Hp) (as : List Addr) (Q : VK) (E : XK) : Except Ex S → Sto → Prop
  | .ok s, μ' => ∀ F' as' v H', Ext F as F' as' → SR g F' as' μ' H' → RA g F' as' H' s v → Q v H'
  | .error x, μ' => ∀ F' as' cls d H', Ext F as F' as' → SR g F' as' μ' H' → RX g F' H' x cls d → E cls d H'
/-- the promise: it does what the shallow code tells -/
def spOf (g : G) (np : Nat) (sem : List S → Sto → Option R) : Sp := fun vs H Q E => vs.length = np ∧ ∃ F as ss μ r μ', SR g F as μ H ∧ RSs g F as ss vs ∧ sem ss μ = some (r, μ') ∧ PostC g F as Q E r μ'
section
variable {g : G} {X : Cx} {W : WX} {k : Nat} {f C : Addr} {fd : FuncData} {ps ks : List Str} {sp : Sp} {dvs : List V} {n : Nat}
/-- the callee runs -/
theorem run_sem {pins : List (Addr × Obj)} {σ : L2.St} {H : Hp} {s : Shared} {Q : VK} {us ws : List Value} {vs zs bs : List V} (F : FnOk X.prog X.w X.K X.mg X.base (CX X.prog X.w) k f fd ps sp) (hr : Room k X.A) (hb : Bnd X.K fd ps n ks dvs) (tk : Takes X W)
    (I : Inv X pins σ H s) (r : Vals vs us) (rz : Vals zs ws) (l1 : vs.length = n) (l2 : zs.length = ks.length) (hB : bindG ks vs zs dvs ps.length ps 0 = some bs) (h : sp bs H Q (WE W σ)) : wpAny (model X.prog X.w) X.A (call (.ref f) us (ks.zip ws)) (EP X pins σ Q) X.xe s := by
  obtain ⟨ds, rd, hb⟩ := hb.to
  obtain ⟨b, e1, e2⟩ := hb s us ws I.kIn (r.length.symm.trans l1) (rz.length.symm.trans l2)
  have r2 : Vals bs b := bindG_rel r rz rd hB e1
  refine wpAny_call (codeAny_mono (F.run X.A X.stack s H ⟨us, ks.zip ws⟩ b bs Q (WE W σ) hr I.env0 e2 r2 h) fun r s' hq => ?_)
  cases r with
  | error e => exact passAt tk σ pins H s e s' I hq
  | ok fl =>
    cases fl with
    | ret u => exact I.after hq
    | next => exact False.elim hq
    | brk => exact False.elim hq
    | cont => exact False.elim hq
/-- C(..): a new instance, its __init__ -/
theorem run_make_sem {pins : List (Addr × Obj)} {σ : L2.St} {H : Hp} {s : Shared} {Q : VK} {us ws : List Value} {vs zs : List V} (M : Mk X.K C f) (F : FnOk X.prog X.w X.K X.mg X.base (CX X.prog X.w) k f fd ps sp) (hr : Room (k + 1) X.A) (hb : Bnd X.K fd ps (n + 1) ks dvs)
    (tk : Takes X W) (I : Inv X pins σ H s) (r : Vals vs us) (rz : Vals zs ws) (l1 : vs.length = n) (l2 : zs.length = ks.length)
    (h : ∀ x dx, H x = none → H dx = none → dx ≠ x → ∃ bs, bindG ks (.ref x :: vs) zs dvs ps.length ps 0 = some bs ∧ sp bs (upd (upd H dx (.own x)) x (.ins C dx [])) (fun v H2 => v = .non ∧ Q (.ref x) H2) (WE W σ)) :
    wpAny (model X.prog X.w) X.A (call (.ref C) us (ks.zip ws)) (EP X pins σ Q) X.xe s := by
  obtain ⟨bs, hB, hq⟩ := h (s.heap.objs.size + 1) s.heap.objs.size (I.hok.fresh (Nat.le_succ _)) (I.hok.fresh (Nat.le_refl _)) (Nat.ne_of_lt (Nat.lt_succ_self _))
  have I2 := Inv.made (C := C) I
  have r1 : Vals (V.ref (s.heap.objs.size + 1) :: vs) (Value.ref (s.heap.objs.size + 1) :: us) := .cons rfl r
  obtain ⟨ds, rd, hb⟩ := hb.to
  obtain ⟨b, e1, e2⟩ := hb _ (Value.ref (s.heap.objs.size + 1) :: us) ws I2.kIn (by rw [List.length_cons, ← r.length, l1]) (rz.length.symm.trans l2)
  have r2 : Vals bs b := bindG_rel r1 rz rd hB e1
  refine wpAny_call (make_map (f := f) I.kIn M.makes M.init (beq_iff_eq.mp M.fn) (codeAny_mono (F.run _ X.stack _ _ ⟨Value.ref (s.heap.objs.size + 1) :: us, ks.zip ws⟩ b bs _ (WE W σ) (hr.make C us (ks.zip ws))
    (I2.env0.make C us (ks.zip ws)) e2 r2 hq) fun r s' hq' => ?_))
  cases r with
  | error e => exact passAt tk σ pins _ _ e s' I2 hq'
  | ok fl =>
    cases fl with
    | ret u =>
      obtain ⟨v, H', I3, rv, ev, q3⟩ := I2.after hq'
      subst ev
      exact ⟨rv, ⟨V.ref (s.heap.objs.size + 1), H', I3, rfl, q3⟩⟩
    | next => exact False.elim hq'
    | brk => exact False.elim hq'
    | cont => exact False.elim hq'

/-- an argument list with its code -/
inductive SAs (g : G) (X : Cx) (W : WX) : List Expr → List ME → Prop
  | nil : SAs g X W [] []
  | cons {e : Expr} {es : List Expr} {ms : List ME} (hn : (e :: es).all notStar = true) (h : SA g X W (e :: es) (mArgs ms)) : SAs g X W (e :: es) ms
theorem SAs.sa {es : List Expr} {ms : List ME} (h : SAs g X W es ms) : SA g X W es (mArgs ms) := by
  cases h with
  | nil => exact sa_nil
  | cons hn h => exact h
/-- the values of a call, then the call -/
theorem callW {fv : Value} {first : List Value} {es : List Expr} {ms kms : List ME} {kws : List Keyword} {pos : Pos} {pins : List (Addr × Obj)} {σ : L2.St} {H : Hp} {s : Shared} {Q : VK} {F : Hp} {as : List Addr} {ρ : En} {μ μ' : Sto} {r : Except Ex S}
    {f : List S → List S → Sto → Option R} (I : Inv X pins σ H s) (hk : PySem.W.keepIn X.K fv = true) (hks : kwNames kws = some ks) (ha : SAs g X W es ms) (hkw : SK g X W kws (mArgs kms))
    (h : (andThen (mArgs ms ρ μ) fun ss μ1 => andThen (mArgs kms ρ μ1) fun ts μ2 => f ss ts μ2) = some (r, μ')) (sr : SR g F as μ H) (er : ER g F as ρ σ) (hx : ∀ x, r = .error x → PErr g W F as σ x μ')
    (k : ∀ ss ts μ2 F2 as2 vs zs H2, f ss ts μ2 = some (r, μ') → Ext F as F2 as2 → SR g F2 as2 μ2 H2 → ER g F2 as2 ρ σ → RSs g F2 as2 ss vs → RSs g F2 as2 ts zs → ∀ (st : Shared) (us ws : List Value), Inv X pins σ H2 st → Vals vs us → Vals zs ws → wpAny (model X.prog X.w) X.A (call fv (first ++ us) (ks.zip ws)) (EP X pins σ Q) X.xe st) :
    wpAny (model X.prog X.w) X.A (callWith pos fv first (backTo pos (starEach es X.env)) (backToKw pos (keywordEach kws X.env))) (EP X pins σ Q) X.xe s := by
  obtain ⟨a, b, c, d⟩ := kw_all (env := X.env) (pos := pos) hks
  cases ha with
  | nil =>
    have q : wpK X kws σ H fun zs H2 => ∀ (st : Shared) (ws : List Value), Inv X pins σ H2 st → Vals zs ws → wpAny (model X.prog X.w) X.A (call fv (first ++ []) (ks.zip ws)) (EP X pins σ Q) X.xe st := by
      have h' : (andThen (mArgs kms ρ μ) fun ts μ2 => f [] ts μ2) = some (r, μ') := h
      exact hkw.then_ h' sr er hx fun ts μ2 F2 as2 zs H2 h2 x2 sr2 er2 rs2 st ws I2 rz => k [] ts μ2 F2 as2 [] zs H2 h2 x2 sr2 er2 .nil rs2 st [] ws I2 .nil rz
    refine PySem.W.callWith_KW0 (h₀ := X.base) I.ok.mod.kin hk a (thn (q pos pins s I) fun ws s2 ⟨zs, H2, I2, rz, q2⟩ => ⟨I2.kIn, ?_⟩) (by rw [c]; rfl)
    rw [b]
    exact q2 s2 ws I2 rz
  | cons hn ha =>
    rename_i e es
    rw [List.all_cons, Bool.and_eq_true] at hn
    have q : wpA X (e :: es) σ H fun vs H1 => wpK X kws σ H1 fun zs H2 => ∀ (st : Shared) (us ws : List Value), Inv X pins σ H2 st → Vals vs us → Vals zs ws → wpAny (model X.prog X.w) X.A (call fv (first ++ us) (ks.zip ws)) (EP X pins σ Q) X.xe st := by
      refine ha.then_ h sr er hx fun ss μ1 F1 as1 vs H1 h1 x1 sr1 er1 rs1 => ?_
      exact hkw.then_ h1 sr1 er1 (fun x e => (hx x e).ext x1) fun ts μ2 F2 as2 zs H2 h2 x2 sr2 er2 rs2 st us ws I2 ru rz => k ss ts μ2 F2 as2 vs zs H2 h2 (x1.trans x2) sr2 er2 (rs1.mono x2) rs2 st us ws I2 ru rz
    refine PySem.W.callWith_KW (h₀ := X.base) I.ok.mod.kin hk a (thn (q pos pins s I) fun us s1 ⟨vs, H1, I1, r, q⟩ => ?_) ?_ (starEach_cons hn.1)
    · refine thn (q pos pins s1 I1) fun ws s2 ⟨zs, H2, I2, rz, q2⟩ => ⟨I2.kIn, ?_⟩
      rw [b]
      exact q2 s2 us ws I2 r rz
    · rw [c, starEach_cons hn.1]
      show ((false || (backTo pos (starEach es X.env)).any (·.1)) || false) = false
      rw [starEach_plain hn.2]
      rfl

/-! ### a def called by its name -/
/-- a def as callers see it: parameters, defaults, code -/
structure FnI where
  ps : List Str
  dfl : List D
  sem : List S → Sto → Option R
def callF (fi : FnI) (n : Nat) (ks : List Str) (ss ts : List S) (μ : Sto) : Option R :=
  if ss.length = n ∧ ts.length = ks.length then (match bindG ks ss ts (fi.dfl.map .val) fi.ps.length fi.ps 0 with
    | some bs => fi.sem bs μ
    | none => none) else none
def mCallF (fi : FnI) (n : Nat) (ks : List Str) (ms kms : List ME) : ME := fun ρ μ => andThen (mArgs ms ρ μ) fun ss μ1 => andThen (mArgs kms ρ μ1) fun ts μ2 => callF fi n ks ss ts μ2
/-- what is known of a def there: its object, binding, promise -/
structure FnK (g : G) (X : Cx) (fi : FnI) (k : Nat) (f : Addr) (n : Nat) (ks : List Str) : Prop where
  ok : ∃ fd dvs, FnOk X.prog X.w X.K X.mg X.base (CX X.prog X.w) k f fd fi.ps (spOf g fi.ps.length fi.sem) ∧ Bnd X.K fd fi.ps n ks dvs ∧ ∀ F, Reps g F fi.dfl dvs
theorem rss_vals {F : Hp} {as : List Addr} : ∀ {ds : List D} {vs : List V}, Reps g F ds vs → RSs g F as (ds.map .val) vs
  | [], vs, h => by rw [Reps.nil_iff.mp h]; exact .nil
  | d :: ds, vs, h => by
    obtain ⟨v, r, rfl, h1, h2⟩ := Reps.cons_iff.mp h
    exact .cons h1 (rss_vals h2)
theorem postC_of {F : Hp} {as : List Addr} {σ : L2.St} {Q : VK} {r : Except Ex S} {μ : Sto} (h : PostE g W F as σ Q r μ) : PostC g F as Q (WE W σ) r μ := by
  cases r with
  | ok s => exact h
  | error x => exact h
theorem callF_run {fi : FnI} {f : Addr} {pins : List (Addr × Obj)} {σ : L2.St} {H : Hp} {Q : VK} {F : Hp} {as : List Addr} {μ μ' : Sto} {r : Except Ex S} {ss ts : List S} {vs zs : List V} (hF : FnK g X fi k f n ks) (hr : Room k X.A) (tk : Takes X W)
    (h : callF fi n ks ss ts μ = some (r, μ')) (sr : SR g F as μ H) (rs : RSs g F as ss vs) (rt' : RSs g F as ts zs) (post : PostE g W F as σ Q r μ') (st : Shared) (us ws : List Value) (I : Inv X pins σ H st) (ru : Vals vs us) (rw' : Vals zs ws) :
    wpAny (model X.prog X.w) X.A (call (.ref f) us (ks.zip ws)) (EP X pins σ Q) X.xe st := by
  obtain ⟨fd, dvs, ok, bnd, rd⟩ := hF.ok
  unfold callF at h
  split at h
  · rename_i hl
    split at h
    · rename_i bs hb
      obtain ⟨b', e1, e2⟩ := bindG_ex rs rt' (rss_vals (as := as) (rd F)) hb
      exact run_sem ok hr bnd tk I ru rw' (by rw [← Paired.length rs]; exact hl.1) (by rw [← Paired.length rt']; exact hl.2) e1 ⟨bindG_len e1, F, as, bs, μ, r, μ', sr, e2, h, postC_of post⟩
    · cases h
  · cases h
theorem se_call {fi : FnI} {f : Addr} {x : Str} {p pos : Pos} {es : List Expr} {kws : List Keyword} {ms kms : List ME} (hF : FnK g X fi k f n ks) (hr : Room k X.A) (tk : Takes X W) (hg : Gl X x) (hm : X.mg x = some (.ref f)) (hk : PySem.W.keepIn X.K (.ref f) = true)
    (hdb : (x == ("__debug__" : Str)) = false) (hks : kwNames kws = some ks) (ha : SAs g X W es ms) (hkw : SK g X W kws (mArgs kms)) : SE g X W (.Call (.Name x p) es kws pos) (mCallF fi n ks ms kms) := by
  refine ⟨fun F as ρ μ σ H Q r μ' h sr er post pins s I => ?_⟩
  refine wpAny_Call_Name_kw (ld_glob I hg hm ?_ hdb)
  refine callW (first := []) (f := fun ss ts μ2 => callF fi n ks ss ts μ2) I hk hks ha hkw h sr er (fun x e => by subst e; exact post) fun ss ts μ2 F2 as2 vs zs H2 h2 x2 sr2 er2 rs2 rz2 st us ws I2 ru rz => ?_
  exact callF_run hF hr tk h2 sr2 rs2 rz2 (PostE.ext x2 post) st us ws I2 ru rz

/-! ### a class called -/
structure MkI where
  c : Nat
  fl : List Str
  fi : FnI
def finM (mi : MkI) (k : Nat) : Option R → Option R
  | some (.ok (.val .non), μ3) => (match μ3[k]? with
    | some (.ins c fs) => if c = mi.c ∧ fs.map (·.1) = mi.fl then some (.ok (.val (.obj mi.c (fs.map (·.2)))), μ3.take k) else none
    | _ => none)
  | some (.error x, μ3) => some (.error x, μ3.take k)
  | _ => none
def callM (mi : MkI) (n : Nat) (ks : List Str) (ss ts : List S) (μ : Sto) : Option R :=
  if ss.length = n ∧ ts.length = ks.length then (match bindG ks (.cell μ.length :: ss) ts (mi.fi.dfl.map .val) mi.fi.ps.length mi.fi.ps 0 with
    | some bs => finM mi μ.length (mi.fi.sem bs (μ ++ [.ins mi.c []]))
    | none => none) else none
def mMake (mi : MkI) (n : Nat) (ks : List Str) (ms kms : List ME) : ME := fun ρ μ => andThen (mArgs ms ρ μ) fun ss μ1 => andThen (mArgs kms ρ μ1) fun ts μ2 => callM mi n ks ss ts μ2
theorem take_ext {F F' : Hp} {as as' : List Addr} {μ : Sto} {H : Hp} (sr : SR g F as μ H) (x : Ext F as F' as') : as'.take μ.length = as := by
  obtain ⟨_, l, rfl⟩ := x
  rw [← sr.len, List.take_left]
/-- the store cut back behind a call -/
theorem SR.back {F F' : Hp} {as as' : List Addr} {μ μ' : Sto} {H H' : Hp} (sr : SR g F as μ H) (x : Ext F as F' as') (sr' : SR g F' as' μ' H') : SR g F' as (μ'.take μ.length) H' := by
  have := sr'.cut μ.length
  rw [take_ext sr x] at this
  exact this
theorem se_make {mi : MkI} {f : Addr} {x : Str} {p pos : Pos} {es : List Expr} {kws : List Keyword} {ms kms : List ME} (hF : FnK g X mi.fi k f (n + 1) ks) (hr : Room (k + 1) X.A) (tk : Takes X W) (M : Mk X.K (g.cad mi.c) f) (hfl : g.fl mi.c = mi.fl) (hg : Gl X x) (hm : X.mg x = some (.ref (g.cad mi.c)))
    (hdb : (x == ("__debug__" : Str)) = false) (hks : kwNames kws = some ks) (ha : SAs g X W es ms) (hkw : SK g X W kws (mArgs kms)) : SE g X W (.Call (.Name x p) es kws pos) (mMake mi n ks ms kms) := by
  refine ⟨fun F as ρ μ σ H Q r μ' h sr er post pins s I => ?_⟩
  refine wpAny_Call_Name_kw (ld_glob I hg hm ?_ hdb)
  refine callW (first := []) (f := fun ss ts μ2 => callM mi n ks ss ts μ2) I M.kp hks ha hkw h sr er (fun x e => by subst e; exact post) fun ss ts μ2 F2 as2 vs zs H2 h2 x2 sr2 er2 rs2 rz2 st us ws I2 ru rz => ?_
  obtain ⟨fd, dvs, ok, bnd, rd⟩ := hF.ok
  unfold callM at h2
  split at h2
  · rename_i hl
    split at h2
    · rename_i bs hb
      refine run_make_sem M ok hr bnd tk I2 ru rz (by rw [← Paired.length rs2]; exact hl.1) (by rw [← Paired.length rz2]; exact hl.2) fun a dx ha' hdx hne => ?_
      -- the instance as a cell
      obtain ⟨sr3, f3, n3⟩ := sr2.loose (o := .own a) hdx
      have ha3 : upd H2 dx (.own a) a = none := by rw [upd_ne (Ne.symm hne)]; exact ha'
      obtain ⟨sr4, f4, n4⟩ := sr3.loose (o := .ins (g.cad mi.c) dx []) ha3
      obtain ⟨sr5, x5⟩ := sr4.push (c := .ins mi.c []) upd_same n4 ⟨f4, dx, [], upd_same, rfl, Reps.nil⟩
      have hself : RSs g F2 (as2 ++ [a]) (.cell μ2.length :: ss) (.ref a :: vs) := .cons ⟨a, by rw [← sr2.len, List.getElem?_append_right (Nat.le_refl _), Nat.sub_self]; rfl, rfl⟩ (rs2.mono x5)
      obtain ⟨b', e1, e2⟩ := bindG_ex hself (rz2.mono x5) (rss_vals (as := as2 ++ [a]) (rd F2)) hb
      refine ⟨b', e1, bindG_len e1, ?_⟩
      -- its __init__'s run
      cases hs : mi.fi.sem bs (μ2 ++ [.ins mi.c []]) with
      | none => rw [hs] at h2; cases h2
      | some q =>
        obtain ⟨r3, μ3⟩ := q
        rw [hs] at h2
        refine ⟨F2, as2 ++ [a], bs, _, r3, μ3, sr5, e2, hs, ?_⟩
        cases r3 with
        | error x =>
          cases h2
          exact fun F' as' cls d H' x6 sr6 rx => post F' as2 cls d H' (x2.trans ⟨x6.1, [], by rw [List.append_nil]⟩) (sr2.back (x5.trans x6) sr6) rx
        | ok s3 =>
          intro F' as' v H' x6 sr6 ra6
          cases s3 with
          | cell _ => cases h2
          | fr _ => cases h2
          | val d =>
            cases d with
            | non =>
              unfold finM at h2
              simp only at h2
              split at h2
              · rename_i c fs hc
                split at h2
                · rename_i hcf
                  obtain ⟨rfl, hfs⟩ := hcf
                  cases h2
                  have hv : v = .non := by have z : Rep g F' .non v := ra6; unfold Rep at z; exact z
                  refine ⟨hv, ?_⟩
                  have hka : as'[μ2.length]? = some a := by
                    obtain ⟨_, l, rfl⟩ := x6
                    rw [← sr2.len, List.append_assoc, List.getElem?_append_right (Nat.le_refl _), Nat.sub_self]
                    rfl
                  obtain ⟨fa, dx', vs', h6, h7, h8⟩ := sr6.cells _ _ _ hka hc
                  have hrep : Rep g (upd F' a (.ins (g.cad mi.c) dx' ((fs.map (·.1)).zip vs'))) (.obj mi.c (fs.map (·.2))) (.ref a) := by
                    unfold Rep
                    refine ⟨a, dx', vs', rfl, ?_, ?_, h8.mono (same_upd fa)⟩
                    · rw [upd_same, hfl, hfs]
                    · rw [hfl, ← hfs, List.length_map]; exact h7
                  obtain ⟨sr7, x7⟩ := sr6.still hka h6 fa hrep
                  have x8 : Ext F2 as2 (upd F' a (.ins (g.cad mi.c) dx' ((fs.map (·.1)).zip vs'))) as' := (x5.trans x6).trans x7
                  have sr8 := sr2.back x8 sr7
                  have ht : (μ3.set μ2.length (.frz (.obj mi.c (fs.map (·.2))))).take μ2.length = μ3.take μ2.length := by rw [List.take_set_of_le (Nat.le_refl _)]
                  rw [ht] at sr8
                  exact post _ as2 _ H' (x2.trans ⟨x8.1, [], by rw [List.append_nil]⟩) sr8 hrep
                · cases h2
              · cases h2
            | _ => cases h2
    · cases h2
  · cases h2

/-! ### a method of an instance -/
/-- the receiver's class -/
def clsOf (m : Str) (μ : Sto) : S → Option Nat
  | .val (.obj c _) => some c
  | .cell k => match μ[k]? with
    | some (.ins c fs) => if (fs.lookup m).isNone then some c else none
    | _ => none
  | _ => none
def mMeth (m : Str) (mt : Nat → Option FnI) (n : Nat) (ks : List Str) (a : ME) (ms kms : List ME) : ME := fun ρ μ => andThen (a ρ μ) fun s0 μ0 => match clsOf m μ0 (rt s0) with
  | some c => (match mt c with
    | some fi => andThen (mArgs ms ρ μ0) fun ss μ1 => andThen (mArgs kms ρ μ1) fun ts μ2 => callF fi (n + 1) ks (rt s0 :: ss) ts μ2
    | none => none)
  | none => none
/-- what is known of the method there: for each class its def -/
structure MtK (g : G) (X : Cx) (mt : Nat → Option FnI) (m : Str) (k : Nat) (n : Nat) (ks : List Str) : Prop where
  ok : ∀ c fi, mt c = some fi → ∃ f, FnK g X fi k f n ks ∧ Cls X.K (g.cad c) ∧ Meth X.K (g.cad c) m f ∧ ¬ m ∈ g.fl c
theorem lookup_map_none {m : Str} : ∀ {fs : List (Str × D)} {vs : List V}, fs.lookup m = none → ((fs.map (·.1)).zip vs).lookup m = none
  | [], _, _ => rfl
  | (x, y) :: fs, [], _ => rfl
  | (x, y) :: fs, v :: vs, h => by
    cases e : (m == x) with
    | true => simp only [List.lookup, e] at h; cases h
    | false =>
      simp only [List.lookup, e] at h
      show List.lookup m ((x, v) :: (fs.map (·.1)).zip vs) = none
      simp only [List.lookup, e]
      exact lookup_map_none h
theorem lookup_zip_none {α : Type} {m : Str} : ∀ {l : List Str} {vs : List α}, ¬ m ∈ l → (l.zip vs).lookup m = none
  | [], _, _ => rfl
  | x :: l, [], _ => rfl
  | x :: l, v :: vs, h => by
    have e : (m == x) = false := beq_eq_false_iff_ne.mpr fun z => h (by rw [z]; exact List.mem_cons_self)
    show List.lookup m ((x, v) :: l.zip vs) = none
    simp only [List.lookup, e]
    exact lookup_zip_none fun z => h (List.mem_cons_of_mem _ z)
end
/-- a receiver where super isn't meant -/
def recvOk : Expr → Bool
  | .Call (.Name id _) [] [] _ => id != ("super" : Str)
  | _ => true
theorem recv_base {o : Expr} {m : Str} {env : PySem.Env} (h : recvOk o = true) : attributeBase o m env (eval o env) = eval o env := by
  cases o with
  | Call fn args kws pos =>
    cases fn with
    | Name id p =>
      cases args with
      | nil =>
        cases kws with
        | nil => exact abase_call h
        | cons _ _ => rfl
      | cons _ _ => rfl
    | _ => rfl
  | _ => rfl
theorem all_plain : ∀ {es : List Expr} {env : PySem.Env} {pos : Pos}, es.all notStar = true → (backTo pos (starEach es env)).all (fun x => !x.1) = true
  | [], _, _, _ => rfl
  | e :: es, env, pos, h => by
    rw [List.all_cons, Bool.and_eq_true] at h
    rw [starEach_cons h.1]
    show (true && (backTo pos (starEach es env)).all (fun x => !x.1)) = true
    rw [all_plain h.2]; rfl
theorem SAs.plain {g : G} {X : Cx} {W : WX} {es : List Expr} {ms : List ME} (h : SAs g X W es ms) : es.all notStar = true := by
  cases h with
  | nil => rfl
  | cons hn _ => exact hn
/-- the line and the number of arguments of a method's call -/
def methForm (apos pos : Pos) (es : List Expr) (kws : List Keyword) : Bool := (apos.endLine == pos.line) && decide (es.length + kws.length + (if kws.isEmpty then 0 else 1) < 30)
theorem meth_tree {X : Cx} {o : Expr} {m : Str} {apos pos : Pos} {es : List Expr} {kws : List Keyword} {ks : List Str} {A : Around} {E : Value → Shared → Prop} {s : Shared} {Q : Value → Shared → Prop} (hb : recvOk o = true) (hst : es.all notStar = true) (hks : kwNames kws = some ks) (hf : methForm apos pos es kws = true)
    (h : wpAny (model X.prog X.w) A (eval o X.env) (fun ov s1 => wpAny (model X.prog X.w) A (getMethod ov m (do return (← importBound o X.env).getD true)) (fun fx s2 => wpAny (model X.prog X.w) A (callWith pos fx.1 fx.2 (backTo pos (starEach es X.env)) (backToKw pos (keywordEach kws X.env))) Q E s2) E s1) E s) :
    wpAny (model X.prog X.w) A (eval (.Call (.Attribute o m apos) es kws pos) X.env) Q E s := by
  obtain ⟨a, b, c, d⟩ := kw_all (env := X.env) (pos := pos) hks
  unfold methForm at hf
  rw [Bool.and_eq_true] at hf
  rw [arm_eval_Call, recv_base hb]
  refine wpAny_bind (thn h fun ov s1 h1 => wpAny_bind (wpAny_standAt ?_))
  have hke : (backToKw pos (keywordEach kws X.env)).isEmpty = kws.isEmpty := by
    cases kws with
    | nil => rfl
    | cons k r => cases k; rfl
  have hform : methodCallForm (es.length + kws.length) (backTo pos (starEach es X.env)) (backToKw pos (keywordEach kws X.env)) = true := by
    unfold methodCallForm
    rw [all_plain hst, a, hke]
    exact hf.2
  have hpos : methodCallPos true o X.env apos pos = pure pos := by
    unfold methodCallPos
    rw [hf.1]
    rfl
  unfold methodCall
  rw [hform]
  refine wpAny_bind (wpAny_holding ?_)
  unfold calleeOf
  rw [if_pos rfl]
  exact thn h1 fun fx s2 h2 => wpAny_bind (wpAny_of_eq hpos h2)
section
variable {g : G} {X : Cx} {W : WX} {k : Nat} {ks : List Str} {n : Nat}
theorem se_meth {mt : Nat → Option FnI} {a : Expr} {ma : ME} {m : Str} {apos pos : Pos} {es : List Expr} {kws : List Keyword} {ms kms : List ME} (hM : MtK g X mt m k (n + 1) ks) (hr : Room k X.A) (tk : Takes X W)
    (hb : recvOk a = true) (hf : methForm apos pos es kws = true) (hks : kwNames kws = some ks) (hself : SE g X W a ma) (ha : SAs g X W es ms) (hkw : SK g X W kws (mArgs kms)) :
    SE g X W (.Call (.Attribute a m apos) es kws pos) (mMeth m mt n ks ma ms kms) := by
  refine ⟨fun F as ρ μ σ H Q r μ' h sr er post pins s I => ?_⟩
  refine meth_tree hb ha.plain hks hf ?_
  have key : wpE X a σ H fun x H1 => ∃ p C dx fs f, x = .ref p ∧ H1 p = some (.ins C dx fs) ∧ Cls X.K C ∧ Meth X.K C m f ∧ fs.lookup m = none ∧
      ∀ (st : Shared), Inv X pins σ H1 st → wpAny (model X.prog X.w) X.A (callWith pos (.ref f) [.ref p] (backTo pos (starEach es X.env)) (backToKw pos (keywordEach kws X.env))) (EP X pins σ Q) X.xe st := by
    refine hself.then_ (show andThen _ _ = some (r, μ') from h) sr er (fun x e => by subst e; exact post) fun s0 μ0 F0 as0 v0 H0 h0 x0 sr0 er0 ra0 => ?_
    obtain ⟨F0', x0', sr0', rs0⟩ := root_ok sr0 ra0
    have er0' := er0.mono x0'
    split at h0
    · rename_i c hc
      split at h0
      · rename_i fi hfi
        obtain ⟨f, hF, cl, me, hno⟩ := hM.ok c fi hfi
        -- where it stands
        have hat : ∃ p dx fs, v0 = .ref p ∧ H0 p = some (.ins (g.cad c) dx fs) ∧ fs.lookup m = none ∧ True := by
          cases s0 with
          | fr ds => cases hc
          | val d =>
            cases d with
            | obj c' fs =>
              cases hc
              obtain ⟨p, dx, vs, rfl, e2, e3, e4⟩ := vr_obj sr0' (.inr (show Rep g F0' (.obj c fs) v0 from rs0))
              exact ⟨p, dx, _, rfl, e2, lookup_zip_none hno, trivial⟩
            | _ => cases hc
          | cell j =>
            obtain ⟨p, h2, rfl⟩ := (show ∃ p, as0[j]? = some p ∧ v0 = .ref p from rs0)
            unfold clsOf at hc
            simp only [rt] at hc
            cases q : μ0[j]? with
            | none => rw [q] at hc; cases hc
            | some cc =>
              rw [q] at hc
              cases cc with
              | ins c' fs =>
                simp only at hc
                split at hc
                · rename_i hn
                  cases hc
                  obtain ⟨_, dx, vs, h3, h4, h5⟩ := sr0'.cells j p _ h2 q
                  exact ⟨p, dx, _, rfl, h3, lookup_map_none (Option.isNone_iff_eq_none.mp hn), trivial⟩
                · cases hc
              | _ => cases hc
        obtain ⟨p, dx, fs, rfl, e2, e3, _⟩ := hat
        refine ⟨p, _, dx, fs, f, rfl, e2, cl, me, e3, fun st I0 => ?_⟩
        refine callW (first := [.ref p]) (f := fun ss ts μ2 => callF fi (n + 1) ks (rt s0 :: ss) ts μ2) I0 me.kp hks ha hkw h0 sr0' er0' (fun x e => by subst e; exact PErr.ext (x0.trans x0') post) fun ss ts μ2 F2 as2 vs zs H2 h2 x2 sr2 er2 rs2 rz2 st us ws I2 ru rz => ?_
        exact callF_run (vs := .ref p :: vs) hF hr tk h2 sr2 (.cons (rs0.mono x2) rs2) rz2 (PostE.ext ((x0.trans x0').trans x2) post) st (.ref p :: us) ws I2 (.cons rfl ru) rz
      · cases h0
    · cases h0
  refine thn (key pins s I) fun ov s1 hq => ?_
  obtain ⟨x, H1, I1, rx, p, C, dx, fs, f, ex, e2, cl, me, e3, q⟩ := hq
  subst ex
  obtain rfl : ov = Value.ref p := rx
  exact getmeth_ok I1 e2 cl me e3 (q s1 I1)
end
end Sz

set_option Elab.async false
set_option linter.all false
set_option maxRecDepth 100000
set_option maxHeartbeats 4000000
/-! Sz G: statements. -/
namespace Sz
open PySem PySem.Spec L2

def PostS (g : G) (W : WX) (F : Hp) (as : List Addr) (D : Ends) : Fl → En → Sto → Prop
  | .nx, ρ', μ' => ∀ F' as' σ' H', Ext F as F' as' → SR g F' as' μ' H' → ER g F' as' ρ' σ' → D.nx σ' H'
  | .bk, ρ', μ' => ∀ F' as' σ' H', Ext F as F' as' → SR g F' as' μ' H' → ER g F' as' ρ' σ' → D.bk σ' H'
  | .ct, ρ', μ' => ∀ F' as' σ' H', Ext F as F' as' → SR g F' as' μ' H' → ER g F' as' ρ' σ' → D.ct σ' H'
  | .rt s, ρ', μ' => ∀ F' as' v H', Ext F as F' as' → SR g F' as' μ' H' → RA g F' as' H' s v → D.rt v H'
  | .ex x, ρ', μ' => ∀ F' as' σ' cls d H', Ext F as F' as' → SR g F' as' μ' H' → ER g F' as' ρ' σ' → RX g F' H' x cls d → W cls d σ' H'
structure SS (g : G) (X : Cx) (W : WX) (st : Stmt) (m : MS) : Prop where
  run : ∀ (F : Hp) (as : List Addr) (ρ : En) (μ : Sto) (σ : L2.St) (H : Hp) (D : Ends) (fl : Fl) (ρ' : En) (μ' : Sto), m ρ μ = some (fl, ρ', μ') → SR g F as μ H → ER g F as ρ σ → PostS g W F as D fl ρ' μ' → wpS X st D σ H
structure SB (g : G) (X : Cx) (W : WX) (sts : List Stmt) (m : MS) : Prop where
  run : ∀ (F : Hp) (as : List Addr) (ρ : En) (μ : Sto) (σ : L2.St) (H : Hp) (D : Ends) (fl : Fl) (ρ' : En) (μ' : Sto), m ρ μ = some (fl, ρ', μ') → SR g F as μ H → ER g F as ρ σ → PostS g W F as D fl ρ' μ' → wpB X sts D σ H
section
variable {g : G} {X : Cx} {W : WX} {F F1 : Hp} {as as1 : List Addr} {D : Ends} {fl : Fl} {ρ : En} {μ : Sto} {σ : L2.St}
theorem PostS.ext (x : Ext F as F1 as1) (h : PostS g W F as D fl ρ μ) : PostS g W F1 as1 D fl ρ μ := by
  cases fl with
  | nx => exact fun F' as' σ' H' e => h F' as' σ' H' (x.trans e)
  | bk => exact fun F' as' σ' H' e => h F' as' σ' H' (x.trans e)
  | ct => exact fun F' as' σ' H' e => h F' as' σ' H' (x.trans e)
  | rt s => exact fun F' as' v H' e => h F' as' v H' (x.trans e)
  | ex y => exact fun F' as' σ' cls d H' e => h F' as' σ' cls d H' (x.trans e)
theorem PostS.err {x : Ex} (er : ER g F as ρ σ) (h : PostS g W F as D (.ex x) ρ μ) : PErr g W F as σ x μ := fun F' as' cls d H' e sr rx => h F' as' σ cls d H' e sr (er.mono e) rx
end

/-! ### blocks -/
def sNil : MS := fun ρ μ => some (.nx, ρ, μ)
def sSeq (a b : MS) : MS := fun ρ μ => match a ρ μ with
  | some (.nx, ρ1, μ1) => b ρ1 μ1
  | r => r
section
variable {g : G} {X : Cx} {W : WX} {st : Stmt} {sts : List Stmt} {a b : MS} {pos : Pos}
theorem sb_nil : SB g X W [] sNil := by
  refine ⟨fun F as ρ μ σ H D fl ρ' μ' h sr er post => wB pss_nil ?_⟩
  cases h
  exact post F as σ H .refl sr er
theorem sb_cons (h1 : SS g X W st a) (h2 : SB g X W sts b) : SB g X W (st :: sts) (sSeq a b) := by
  refine ⟨fun F as ρ μ σ H D fl ρ' μ' h sr er post => wB (pss_cons ps_wp pss_wp) ?_⟩
  show wpS X st { D with nx := wpB X sts D } σ H
  unfold sSeq at h
  split at h
  · rename_i ρ1 μ1 h3
    exact h1.run F as ρ μ σ H _ .nx ρ1 μ1 h3 sr er fun F' as' σ' H' e sr' er' => h2.run F' as' ρ1 μ1 σ' H' D fl ρ' μ' h sr' er' (post.ext e)
  · rename_i hne
    refine h1.run F as ρ μ σ H _ fl ρ' μ' h sr er ?_
    cases fl with
    | nx => exact absurd h (hne _ _)
    | bk => exact post
    | ct => exact post
    | rt s => exact post
    | ex x => exact post
def sPass : MS := sNil
def sBreak : MS := fun ρ μ => some (.bk, ρ, μ)
def sCont : MS := fun ρ μ => some (.ct, ρ, μ)
theorem ss_pass : SS g X W (.Pass pos) sPass := by
  refine ⟨fun F as ρ μ σ H D fl ρ' μ' h sr er post => wS ps_pass ?_⟩
  cases h
  exact post F as σ H .refl sr er
theorem ss_break : SS g X W (.Break pos) sBreak := by
  refine ⟨fun F as ρ μ σ H D fl ρ' μ' h sr er post => wS ps_break ?_⟩
  cases h
  exact post F as σ H .refl sr er
theorem ss_cont : SS g X W (.Continue pos) sCont := by
  refine ⟨fun F as ρ μ σ H D fl ρ' μ' h sr er post => wS ps_continue ?_⟩
  cases h
  exact post F as σ H .refl sr er
end

/-- an expression, then what follows -/
def exThen {α : Type} (r : Option (Except Ex α × Sto)) (ρ : En) (f : α → Sto → Option (Fl × En × Sto)) : Option (Fl × En × Sto) := match r with
  | none => none
  | some (.error x, μ) => some (.ex x, ρ, μ)
  | some (.ok s, μ) => f s μ
section
variable {g : G} {X : Cx} {W : WX} {e : Expr} {m : ME} {F : Hp} {as : List Addr} {ρ ρ' : En} {μ μ' : Sto} {σ : L2.St} {H : Hp} {D : Ends} {fl : Fl}
theorem exThen_some {α : Type} {r : Option (Except Ex α × Sto)} {f : α → Sto → Option (Fl × En × Sto)} {q : Fl × En × Sto} (h : exThen r ρ f = some q) :
    (∃ x, r = some (.error x, q.2.2) ∧ q.1 = .ex x ∧ q.2.1 = ρ) ∨ ∃ s μ, r = some (.ok s, μ) ∧ f s μ = some q := by
  unfold exThen at h
  match r, h with
  | none, h => cases h
  | some (.error x, μ), h => cases h; exact .inl ⟨x, rfl, rfl, rfl⟩
  | some (.ok s, μ), h => exact .inr ⟨s, μ, rfl, h⟩
theorem SE.st {Q : VK} {f : S → Sto → Option (Fl × En × Sto)} (he : SE g X W e m) (h : exThen (m ρ μ) ρ f = some (fl, ρ', μ')) (sr : SR g F as μ H) (er : ER g F as ρ σ) (post : PostS g W F as D fl ρ' μ')
    (k : ∀ s μ1 F1 as1 v H1, f s μ1 = some (fl, ρ', μ') → Ext F as F1 as1 → SR g F1 as1 μ1 H1 → ER g F1 as1 ρ σ → RA g F1 as1 H1 s v → Q v H1) : wpE X e σ H Q := by
  rcases exThen_some h with ⟨x, h1, h2, h3⟩ | ⟨s, μ1, h1, h2⟩
  · dsimp only at h1 h2 h3
    subst h2 h3
    exact he.run F as ρ' μ σ H Q (.error x) μ' h1 sr er (post.err er)
  · exact he.run F as ρ μ σ H Q (.ok s) μ1 h1 sr er fun F' as' v H' e' r' q => k s μ1 F' as' v H' h2 e' r' (er.mono e') q
theorem STe.st {m : MT} {Q : Bool → Hp → Prop} {f : Bool → Sto → Option (Fl × En × Sto)} (he : STe g X W e m) (h : exThen (m ρ μ) ρ f = some (fl, ρ', μ')) (sr : SR g F as μ H) (er : ER g F as ρ σ) (post : PostS g W F as D fl ρ' μ')
    (k : ∀ b μ1 F1 as1 H1, f b μ1 = some (fl, ρ', μ') → Ext F as F1 as1 → SR g F1 as1 μ1 H1 → ER g F1 as1 ρ σ → Q b H1) : wpT X e σ H Q := by
  rcases exThen_some h with ⟨x, h1, h2, h3⟩ | ⟨s, μ1, h1, h2⟩
  · dsimp only at h1 h2 h3
    subst h2 h3
    exact he.run F as ρ' μ σ H Q (.error x) μ' h1 sr er (post.err er)
  · exact he.run F as ρ μ σ H Q (.ok s) μ1 h1 sr er fun F' as' H' e' r' => k s μ1 F' as' H' h2 e' r' (er.mono e')
end

/-! ### return, if, an expression alone -/
def sRet (m : ME) : MS := fun ρ μ => exThen (m ρ μ) ρ fun s μ1 => some (.rt s, ρ, μ1)
def sRetN : MS := fun ρ μ => some (.rt (.val .non), ρ, μ)
def sIf (t : MT) (a b : MS) : MS := fun ρ μ => exThen (t ρ μ) ρ fun c μ1 => if c then a ρ μ1 else b ρ μ1
def sExpr (m : ME) : MS := fun ρ μ => exThen (m ρ μ) ρ fun _ μ1 => some (.nx, ρ, μ1)
def notComp : Expr → Bool
  | .ListComp _ _ _ _ => false
  | .SetComp _ _ _ _ => false
  | .DictComp _ _ _ _ _ => false
  | _ => true
theorem swaps_no {e : Expr} {t : Option Expr} {l : Nat} {env : PySem.Env} (h : notComp e = true) : swapsWith e t l env = pure false := by
  cases e <;> first | rfl | (exact absurd (show false = true from h) Bool.false_ne_true)
section
variable {g : G} {X : Cx} {W : WX} {e c : Expr} {m : ME} {t : MT} {a b : List Stmt} {ma mb : MS} {pos : Pos}
theorem ss_ret (he : SE g X W e m) : SS g X W (.Return (some e) pos) (sRet m) := by
  refine ⟨fun F as ρ μ σ H D fl ρ' μ' h sr er post => wS (ps_ret pe_wp) ?_⟩
  refine he.st h sr er post fun s μ1 F1 as1 v H1 h1 x1 sr1 er1 ra1 => ?_
  cases h1
  exact post F1 as1 v H1 x1 sr1 ra1
theorem ss_retN : SS g X W (.Return none pos) sRetN := by
  refine ⟨fun F as ρ μ σ H D fl ρ' μ' h sr er post => wS ps_retN ?_⟩
  cases h
  exact post F as _ H .refl sr ra_non
theorem ss_if (hc : STe g X W c t) (ha : SB g X W a ma) (hb : SB g X W b mb) : SS g X W (.If c a b pos) (sIf t ma mb) := by
  refine ⟨fun F as ρ μ σ H D fl ρ' μ' h sr er post => wS (ps_if pt_wp pss_wp pss_wp) ?_⟩
  refine hc.st h sr er post fun k μ1 F1 as1 H1 h1 x1 sr1 er1 => ?_
  cases k with
  | true => rw [if_pos rfl] at h1 ⊢; exact ha.run F1 as1 ρ μ1 σ H1 D fl ρ' μ' h1 sr1 er1 (post.ext x1)
  | false => rw [if_neg Bool.false_ne_true] at h1 ⊢; exact hb.run F1 as1 ρ μ1 σ H1 D fl ρ' μ' h1 sr1 er1 (post.ext x1)
theorem ss_expr (he : SE g X W e m) (hs : notComp e = true) : SS g X W (.Expr e pos) (sExpr m) := by
  refine ⟨fun F as ρ μ σ H D fl ρ' μ' h sr er post => wS (ps_expr pe_wp (swaps_no hs)) ?_⟩
  refine he.st h sr er post fun s μ1 F1 as1 v H1 h1 x1 sr1 er1 ra1 => ?_
  cases h1
  exact post F1 as1 σ H1 x1 sr1 er1
end

/-! ### targets -/
/-- a target's code: what is stored, the slots, the store -/
abbrev MG := S → En → Sto → Option (En × Sto)
abbrev wpG (X : Cx) (tg : Expr) : TG := fun v σ H Q => ∀ (pins : List (Addr × Obj)) (s : Shared) (u : Value), Inv X pins σ H s → RelV v u → wpAny (model X.prog X.w) X.A (assign tg X.env u) (fun _ s' => ∃ σ' H', Inv X pins σ' H' s' ∧ Q σ' H') X.xe s
theorem pg_wp {X : Cx} {tg : Expr} : PG X tg (wpG X tg) := ⟨fun pins s σ H v u Q I r h => h pins s u I r⟩
/-- sl: the slots that it may store to -/
structure SG (g : G) (X : Cx) (tg : Expr) (sl : List Nat) (m : MG) : Prop where
  run : ∀ (F : Hp) (as : List Addr) (ρ : En) (μ : Sto) (σ : L2.St) (H : Hp) (s : S) (v : V) (Q : L2.St → Hp → Prop) (ρ' : En) (μ' : Sto), m s ρ μ = some (ρ', μ') → SR g F as μ H → ER g F as ρ σ → RA g F as H s v →
    (∀ F' as' σ' H', Ext F as F' as' → SR g F' as' μ' H' → ER g F' as' ρ' σ' → (∀ ws : List Nat, (∀ i ∈ sl, i ∈ ws) → wipe σ' ws = wipe σ ws) → Q σ' H') → wpG X tg v σ H Q
theorem wipe_in {σ : L2.St} {i : Nat} : ∀ {vs : List Nat}, i ∈ vs → (wipe σ vs)[i]? = if i < σ.length then some none else none
  | [], h => by cases h
  | v :: vs, h => by
    unfold wipe
    by_cases e : v = i
    · subst e
      by_cases hl : v < σ.length
      · rw [if_pos hl, List.getElem?_set_self (by rw [wipe_length]; exact hl)]
      · rw [if_neg hl, List.getElem?_eq_none (by rw [List.length_set, wipe_length]; omega)]
    · rw [List.getElem?_set_ne e]
      exact wipe_in (by
        rcases List.mem_cons.mp h with z | z
        · exact absurd z.symm e
        · exact z)
theorem wipe_set {σ : L2.St} {i : Nat} {x : Option V} {ws : List Nat} (h : i ∈ ws) : wipe (σ.set i x) ws = wipe σ ws := by
  apply List.ext_getElem?
  intro j
  by_cases hj : j ∈ ws
  · rw [wipe_in hj, wipe_in hj, List.length_set]
  · rw [wipe_out hj, wipe_out hj]
    exact List.getElem?_set_ne (show i ≠ j from fun z => hj (by rw [← z]; exact h))
/-- a thing made its owner's: a new list becomes a cell, if the name is one that is changed -/
def own (fl : Bool) (s : S) (μ : Sto) : S × Sto := match s, fl with
  | .fr ds, true => (.cell μ.length, μ ++ [.lst ds])
  | s, _ => (rt s, μ)
theorem own_ok {g : G} {F : Hp} {as : List Addr} {μ : Sto} {H : Hp} {s : S} {v : V} (fl : Bool) (sr : SR g F as μ H) (h : RA g F as H s v) : ∃ F' as', Ext F as F' as' ∧ SR g F' as' (own fl s μ).2 H ∧ RS g F' as' (own fl s μ).1 v := by
  have plain : (own fl s μ = (rt s, μ)) → ∃ F' as', Ext F as F' as' ∧ SR g F' as' (own fl s μ).2 H ∧ RS g F' as' (own fl s μ).1 v := fun e => by
    obtain ⟨F', x, r, q⟩ := root_ok sr h
    rw [e]
    exact ⟨F', as, x, r, q⟩
  cases s with
  | val d => exact plain rfl
  | cell k => exact plain rfl
  | fr ds =>
    cases fl with
    | false => exact plain rfl
    | true =>
      obtain ⟨p, vs, e1, e2, e3, e4, e5⟩ := (show ∃ p vs, v = .ref p ∧ H p = some (.lst vs) ∧ F p = none ∧ p ∉ as ∧ Reps g F ds vs from h)
      obtain ⟨r, x⟩ := sr.push (c := .lst ds) e2 e4 ⟨e3, vs, e2, e5⟩
      exact ⟨F, as ++ [p], x, r, p, by rw [← sr.len, List.getElem?_append_right (Nat.le_refl _), Nat.sub_self]; rfl, e1⟩
def gNm (i : Nat) (fl : Bool) : MG := fun s ρ μ => some (ρ.set i (some (own fl s μ).1), (own fl s μ).2)
def gVals : List MG → List D → En → Sto → Option (En × Sto)
  | [], [], ρ, μ => some (ρ, μ)
  | t :: ts, d :: ds, ρ, μ => match t (.val d) ρ μ with
    | some (ρ1, μ1) => gVals ts ds ρ1 μ1
    | none => none
  | _, _, _, _ => none
def gTu (ts : List MG) : MG := fun s ρ μ => match vw μ s with
  | some (.tup ds) => gVals ts ds ρ μ
  | some (.lst ds) => gVals ts ds ρ μ
  | _ => none
/-- several targets -/
inductive SGs (g : G) (X : Cx) : List Expr → List Nat → List MG → Prop
  | nil : SGs g X [] [] []
  | cons {e : Expr} {es : List Expr} {sl sl' : List Nat} {t : MG} {ts : List MG} (hs : notStar e = true) (h : SG g X e sl t) (r : SGs g X es sl' ts) : SGs g X (e :: es) (sl ++ sl') (t :: ts)
theorem assignEach_cons {e : Expr} {es : List Expr} {env : PySem.Env} (h : notStar e = true) : assignEach (e :: es) env = (false, assign e env) :: assignEach es env := by
  cases e <;> first | rfl | (exact absurd (show false = true from h) Bool.false_ne_true)
section
variable {g : G} {X : Cx} {pos : Pos}
theorem sg_name {i : Nat} {x : Str} {fl : Bool} (hN : X.N.Nodup) (hi : X.N[i]? = some x) (hx : Loc X.env.scope x) (hf : X.fn x = true ∨ X.env.scope.names.lookup x = some .local) : SG g X (.Name x pos) [i] (gNm i fl) := by
  refine ⟨fun F as ρ μ σ H s v Q ρ' μ' h sr er ra k pins st u I ru => ?_⟩
  cases h
  obtain ⟨F', as', x', sr', rs⟩ := own_ok fl sr ra
  exact (pg_name hN hi hx hf).run pins st σ H v u Q I ru (k F' as' _ H x' sr' ((er.mono x').set rs) fun ws hw => wipe_set (hw i List.mem_cons_self))
abbrev wpGs (X : Cx) (ts : List Expr) : TGs := fun vs σ H Q => ∀ (pins : List (Addr × Obj)) (s : Shared) (us : List Value), Inv X pins σ H s → Vals vs us → wpAny (model X.prog X.w) X.A (assignInOrder ((assignEach ts X.env).map (·.2)) us) (fun _ s' => ∃ σ' H', Inv X pins σ' H' s' ∧ Q σ' H') X.xe s
theorem pgs_wp {ts : List Expr} : PGs X ts (wpGs X ts) := ⟨fun pins s σ H vs us Q I r h => h pins s us I r⟩
theorem sgs_run {es : List Expr} {sl : List Nat} {ts : List MG} (h : SGs g X es sl ts) : ∀ (F : Hp) (as : List Addr) (ρ : En) (μ : Sto) (σ : L2.St) (H : Hp) (ds : List D) (vs : List V) (Q : L2.St → Hp → Prop) (ρ' : En) (μ' : Sto), gVals ts ds ρ μ = some (ρ', μ') → SR g F as μ H → ER g F as ρ σ → Reps g F ds vs →
    (∀ F' as' σ' H', Ext F as F' as' → SR g F' as' μ' H' → ER g F' as' ρ' σ' → (∀ ws : List Nat, (∀ i ∈ sl, i ∈ ws) → wipe σ' ws = wipe σ ws) → Q σ' H') → wpGs X es vs σ H Q := by
  induction h with
  | nil =>
    intro F as ρ μ σ H ds vs Q ρ' μ' h sr er r k
    cases ds with
    | cons _ _ => cases h
    | nil =>
      cases h
      rw [Reps.nil_iff.mp r]
      exact fun pins s us I ru => pgs_nil.run pins s σ H [] us Q I ru ⟨rfl, k F as σ H .refl sr er fun _ _ => rfl⟩
  | @cons e es sl sl' t ts hs he hr ih =>
    intro F as ρ μ σ H ds vs Q ρ' μ' h sr er r k
    cases ds with
    | nil => cases h
    | cons d ds =>
      unfold gVals at h
      split at h
      · rename_i ρ1 μ1 h1
        obtain ⟨v, r', rfl, r1, r2⟩ := Reps.cons_iff.mp r
        refine fun pins s us I ru => (pgs_cons (pg_wp (X := X) (tg := e)) (pgs_wp (X := X) (ts := es)) (by rw [assignEach_cons hs]; rfl)).run pins s σ H (v :: r') us Q I ru ⟨v, r', rfl, ?_⟩
        exact he.run F as ρ μ σ H (.val d) v _ ρ1 μ1 h1 sr er r1 fun F1 as1 σ1 H1 x1 sr1 er1 w1 => ih F1 as1 ρ1 μ1 σ1 H1 ds r' Q ρ' μ' h sr1 er1 (r2.mono x1.1) fun F' as' σ' H' x' sr' er' w' => k F' as' σ' H' (x1.trans x') sr' er' fun ws hw => (w' ws fun i hi => hw i (List.mem_append_right _ hi)).trans (w1 ws fun i hi => hw i (List.mem_append_left _ hi))
      · cases h
theorem sgs_each {es : List Expr} {sl : List Nat} {ts : List MG} (h : SGs g X es sl ts) : (assignEach es X.env).findIdx? (·.1) = none ∧ (assignEach es X.env).length = ts.length := by
  induction h with
  | nil => exact ⟨rfl, rfl⟩
  | cons hs _ _ ih =>
    rw [assignEach_cons hs]
    refine ⟨?_, by rw [List.length_cons, List.length_cons, ih.2]⟩
    rw [List.findIdx?_cons]
    simp only [Bool.false_eq_true, if_false, ih.1, Option.map_none]
theorem gVals_len : ∀ {ts : List MG} {ds : List D} {ρ : En} {μ : Sto} {q : En × Sto}, gVals ts ds ρ μ = some q → ds.length = ts.length
  | [], [], _, _, _, _ => rfl
  | [], _ :: _, _, _, _, h => by cases h
  | _ :: _, [], _, _, _, h => by cases h
  | t :: ts, d :: ds, ρ, μ, q, h => by
    unfold gVals at h
    split at h
    · rw [List.length_cons, List.length_cons, gVals_len h]
    · cases h
theorem sg_tup {es : List Expr} {sl : List Nat} {ts : List MG} {k : Nat} (hg : g.K = X.K) (hc : X.calm = true) (hs : SGs g X es sl ts) : SG g X (.Tuple es k pos) sl (gTu ts) := by
  refine ⟨fun F as ρ μ σ H s v Q ρ' μ' h sr er ra kk pins st u I ru => ?_⟩
  obtain ⟨h1, h2⟩ := sgs_each hs
  unfold gTu at h
  split at h
  · rename_i ds hv
    obtain ⟨a, vs, rfl, e1, e2⟩ := vr_tup sr (view_ra sr ra hv)
    exact (pg_tup hc (pgs_wp (X := X) (ts := es)) h2 h1).run pins st σ H _ u Q I ru ⟨a, vs, rfl, hg ▸ e1, by rw [e2.length]; exact gVals_len h, sgs_run hs F as ρ μ σ H ds vs Q ρ' μ' h sr er e2 kk⟩
  · rename_i ds hv
    obtain ⟨a, vs, rfl, e1, e2⟩ := vr_lst sr (view_ra sr ra hv)
    exact (pg_lst hc (pgs_wp (X := X) (ts := es)) h2 h1).run pins st σ H _ u Q I ru ⟨a, vs, rfl, SqL.of e1, by rw [e2.length]; exact gVals_len h, sgs_run hs F as ρ μ σ H ds vs Q ρ' μ' h sr er e2 kk⟩
  · cases h
end

/-! ### assignments -/
def sAsg (t : MG) (m : ME) : MS := fun ρ μ => exThen (m ρ μ) ρ fun s μ1 => match t s ρ μ1 with
  | some (ρ2, μ2) => some (.nx, ρ2, μ2)
  | none => none
section
variable {g : G} {X : Cx} {W : WX} {e : Expr} {m : ME} {pos pos' : Pos}
theorem ss_set {i : Nat} {x : Str} {fl : Bool} (hN : X.N.Nodup) (hi : X.N[i]? = some x) (hx : Loc X.env.scope x) (hf : X.fn x = true ∨ X.env.scope.names.lookup x = some .local) (hs : swapsWith e (some (.Name x pos')) pos.line X.env = pure false) (he : SE g X W e m) :
    SS g X W (.Assign [.Name x pos'] e pos) (sAsg (gNm i fl) m) := by
  refine ⟨fun F as ρ μ σ H D fl' ρ' μ' h sr er post => wS (ps_set hN hi hx pe_wp hs hf) ?_⟩
  refine he.st h sr er post fun s μ1 F1 as1 v H1 h1 x1 sr1 er1 ra1 => ?_
  obtain ⟨F2, as2, x2, sr2, rs2⟩ := own_ok fl sr1 ra1
  cases h1
  exact post F2 as2 _ H1 (x1.trans x2) sr2 ((er1.mono x2).set rs2)
theorem ss_asgT {tg : Expr} {sl : List Nat} {t : MG} (ht : SG g X tg sl t) (hs : swapsWithSole [tg] e pos.line X.env = pure false) (hw : swappedStores [tg] e X.env = pure none) (hst : notStar tg = true) (he : SE g X W e m) :
    SS g X W (.Assign [tg] e pos) (sAsg t m) := by
  refine ⟨fun F as ρ μ σ H D fl' ρ' μ' h sr er post => wS (ps_asg pe_wp pg_wp hs hw (by rw [assignEach_cons hst]; rfl)) ?_⟩
  refine he.st h sr er post fun s μ1 F1 as1 v H1 h1 x1 sr1 er1 ra1 => ?_
  split at h1
  · rename_i ρ2 μ2 h2
    cases h1
    exact ht.run F1 as1 ρ μ1 σ H1 s v _ ρ' μ' h2 sr1 er1 ra1 fun F' as' σ' H' x' sr' er' _ => post F' as' σ' H' (x1.trans x') sr' er'
  · cases h1
end
/-- several values, each made its name's own -/
def mOwns : List (Bool × ME) → MA
  | [] => fun _ μ => some (.ok [], μ)
  | (fl, m) :: ms => fun ρ μ => andThen (m ρ μ) fun s μ1 => andThen (mOwns ms ρ (own fl s μ1).2) fun ss μ2 => some (.ok ((own fl s μ1).1 :: ss), μ2)
section
variable {g : G} {X : Cx} {W : WX} {e : Expr} {es : List Expr} {m : ME} {fl : Bool} {ms : List (Bool × ME)}
theorem so_nil : SA g X W [] (mOwns []) := sa_nil
theorem so_cons (hn : notStar e = true) (h1 : SE g X W e m) (h2 : SA g X W es (mOwns ms)) : SA g X W (e :: es) (mOwns ((fl, m) :: ms)) := by
  refine ⟨fun F as ρ μ σ H Q r μ' h sr er post => wA (pa_cons pe_wp pa_wp (starEach_cons hn)) ?_⟩
  refine h1.then_ (show andThen _ _ = some (r, μ') from h) sr er (fun x e => by subst e; exact post) fun s1 μ1 F1 as1 v1 H1 h3 x1 sr1 er1 ra1 => ?_
  obtain ⟨F1', as1', x1', sr1', rs1⟩ := own_ok fl sr1 ra1
  refine h2.then_ h3 sr1' (er1.mono x1') (fun x e => by subst e; exact PErr.ext (x1.trans x1') post) fun ss μ2 F2 as2 vs H2 h4 x2 sr2 er2 rs2 => ?_
  cases h4
  exact post F2 as2 _ H2 ((x1.trans x1').trans x2) sr2 (.cons (rs1.mono x2) rs2)
end
def sPar2 (i j : Nat) (ms : List (Bool × ME)) : MS := fun ρ μ => exThen (mOwns ms ρ μ) ρ fun ss μ1 => match ss with
  | [s, t] => some (.nx, (ρ.set i (some s)).set j (some t), μ1)
  | _ => none
def sPar3 (i j l : Nat) (ms : List (Bool × ME)) : MS := fun ρ μ => exThen (mOwns ms ρ μ) ρ fun ss μ1 => match ss with
  | [s, t, u] => some (.nx, ((ρ.set i (some s)).set j (some t)).set l (some u), μ1)
  | _ => none
section
variable {g : G} {X : Cx} {W : WX} {F : Hp} {as : List Addr} {ρ ρ' : En} {μ μ' : Sto} {σ : L2.St} {H : Hp} {D : Ends} {fl : Fl}
theorem SA.st {es : List Expr} {m : MA} {Q : List V → Hp → Prop} {f : List S → Sto → Option (Fl × En × Sto)} (he : SA g X W es m) (h : exThen (m ρ μ) ρ f = some (fl, ρ', μ')) (sr : SR g F as μ H) (er : ER g F as ρ σ) (post : PostS g W F as D fl ρ' μ')
    (k : ∀ ss μ1 F1 as1 vs H1, f ss μ1 = some (fl, ρ', μ') → Ext F as F1 as1 → SR g F1 as1 μ1 H1 → ER g F1 as1 ρ σ → RSs g F1 as1 ss vs → Q vs H1) : wpA X es σ H Q := by
  rcases exThen_some h with ⟨x, h1, h2, h3⟩ | ⟨s, μ1, h1, h2⟩
  · dsimp only at h1 h2 h3
    subst h2 h3
    exact he.run F as ρ' μ σ H Q (.error x) μ' h1 sr er (post.err er)
  · exact he.run F as ρ μ σ H Q (.ok s) μ1 h1 sr er fun F' as' v H' e' r' q => k s μ1 F' as' v H' h2 e' r' (er.mono e') q
end
section
variable {g : G} {X : Cx} {W : WX}
theorem ss_par2 {i j : Nat} {x y : Str} {a b : Expr} {ms : List (Bool × ME)} {px py pt pos : Pos} {kt k2 pt2} (hc : X.calm = true) (hN : X.N.Nodup) (hi : X.N[i]? = some x) (hj : X.N[j]? = some y) (hij : i ≠ j)
    (hx : X.env.scope.names.lookup x = some .local) (hy : X.env.scope.names.lookup y = some .local) (ha : SA g X W [a, b] (mOwns ms))
    (hw : swappedStores [.Tuple [.Name x px, .Name y py] kt pt] (.Tuple [a, b] k2 pt2) X.env = pure (some [x, y])) :
    SS g X W (.Assign [.Tuple [.Name x px, .Name y py] kt pt] (.Tuple [a, b] k2 pt2) pos) (sPar2 i j ms) := by
  refine ⟨fun F as ρ μ σ H D fl ρ' μ' h sr er post => wS (ps_par hc hN hi hj hij hx hy pa_wp hw) ?_⟩
  refine ha.st h sr er post fun ss μ1 F1 as1 vs H1 h1 x1 sr1 er1 rs1 => ?_
  split at h1
  · rename_i s t
    cases h1
    cases rs1 with
    | cons r1 r2 => cases r2 with
      | cons r2 r3 =>
        cases r3
        exact ⟨_, _, rfl, post F1 as1 _ H1 x1 sr1 ((er1.set r1).set r2)⟩
  · cases h1
theorem ss_par3 {i j l : Nat} {x y z : Str} {a b c : Expr} {ms : List (Bool × ME)} {px py pz pt pos : Pos} {kt k2 pt2} (hc : X.calm = true) (hN : X.N.Nodup) (hi : X.N[i]? = some x) (hj : X.N[j]? = some y) (hl : X.N[l]? = some z) (hij : i ≠ j) (hil : i ≠ l) (hjl : j ≠ l)
    (hx : X.env.scope.names.lookup x = some .local) (hy : X.env.scope.names.lookup y = some .local) (hz : X.env.scope.names.lookup z = some .local) (ha : SA g X W [a, b, c] (mOwns ms))
    (hw : swappedStores [.Tuple [.Name x px, .Name y py, .Name z pz] kt pt] (.Tuple [a, b, c] k2 pt2) X.env = pure (some [x, y, z])) :
    SS g X W (.Assign [.Tuple [.Name x px, .Name y py, .Name z pz] kt pt] (.Tuple [a, b, c] k2 pt2) pos) (sPar3 i j l ms) := by
  refine ⟨fun F as ρ μ σ H D fl ρ' μ' h sr er post => wS (ps_par3 hc hN hi hj hl hij hil hjl hx hy hz pa_wp hw) ?_⟩
  refine ha.st h sr er post fun ss μ1 F1 as1 vs H1 h1 x1 sr1 er1 rs1 => ?_
  split at h1
  · rename_i s t u
    cases h1
    cases rs1 with
    | cons r1 r2 => cases r2 with
      | cons r2 r3 => cases r3 with
        | cons r3 r4 =>
          cases r4
          exact ⟨_, _, _, rfl, post F1 as1 _ H1 x1 sr1 (((er1.set r1).set r2).set r3)⟩
  · cases h1
end
def starB : Expr → Bool
  | .Starred _ _ => true
  | _ => false
def nameF (sc : Scope) (line : Nat) : Expr → Option Str
  | .Name id pos => if sc.names.lookup id == some .local && pos.line == line then some id else none
  | _ => none
/-- what swappedStores tells of two tuples written out, where it can be told -/
def swapOf (sc : Scope) (ts vs : List Expr) : Option (Option (List Str)) :=
  if (!(ts.length == 2 || ts.length == 3) || vs.length != ts.length) = true then some none else
  if vs.any starB = true then some none else
  if ((ts.filterMap (nameF sc ((ts.head?.map (·.pos.line)).getD 0))).length != ts.length || (ts.filterMap (nameF sc ((ts.head?.map (·.pos.line)).getD 0))).eraseDups.length != (ts.filterMap (nameF sc ((ts.head?.map (·.pos.line)).getD 0))).length) = true then some none else
  if vs.all (foldedForSure 8) = true then some none else
  if vs.all (constantsAlone 8) = true then none else some (some (ts.filterMap (nameF sc ((ts.head?.map (·.pos.line)).getD 0))))
theorem swapOf_ok {sc : Scope} {env : PySem.Env} {ts vs : List Expr} {kt : Nat} {pt : Pos} {k2 : Nat} {pt2 : Pos} {r : Option (List Str)} (hk : env.scope.kind = .function) (hs : env.scope = sc) (h : swapOf sc ts vs = some r) :
    swappedStores [.Tuple ts kt pt] (.Tuple vs k2 pt2) env = pure r := by
  have hb : env.blockKind = .function := by unfold PySem.Env.blockKind; rw [hk]; rfl
  have hkf : ∀ id, env.kindOf id = sc.names.lookup id := fun id => by rw [← hs]; rfl
  have eT : ∀ (f : Expr → Bool), (∀ x, f x = starB x) → vs.any f = vs.any starB := fun f hf => congrArg (fun f => List.any vs f) (funext hf)
  have eN : ∀ (f : Expr → Option Str), (∀ x, f x = nameF sc ((ts.head?.map (·.pos.line)).getD 0) x) → ts.filterMap f = ts.filterMap (nameF sc ((ts.head?.map (·.pos.line)).getD 0)) := fun f hf => congrArg (fun f => List.filterMap f ts) (funext hf)
  unfold swapOf at h
  unfold swappedStores
  simp only [hb, hkf, bne_self_eq_false, Bool.or_false]
  rw [eT _ (by intro x; cases x <;> rfl), eN _ (by intro x; cases x <;> rfl)]
  split at h
  · rename_i c1
    cases h
    rw [if_pos c1]
  · rename_i c1
    rw [if_neg c1]
    split at h
    · rename_i c2
      cases h
      rw [if_pos c2]
    · rename_i c2
      rw [if_neg c2]
      split at h
      · rename_i c3
        cases h
        rw [if_pos c3]
      · rename_i c3
        rw [if_neg c3]
        split at h
        · rename_i c4
          cases h
          rw [if_pos c4]
        · rename_i c4
          rw [if_neg c4]
          split at h
          · cases h
          · rename_i c5
            rw [if_neg c5]
            cases h
            rfl
end Sz

set_option Elab.async false
set_option linter.all false
set_option maxRecDepth 100000
set_option maxHeartbeats 4000000
/-! Sz H: loops, comprehensions, stores to places and attributes, raise. -/
namespace Sz
open PySem PySem.Spec L2

/-! ### what is walked -/
abbrev MI := En → Sto → Option (Except Ex (List D) × Sto)
abbrev wpI (X : Cx) (tg iter : Expr) : TI := fun σ H R => ∀ (pins : List (Addr × Obj)) (s : Shared), Inv X pins σ H s → wpAny (model X.prog X.w) X.A (eval iter X.env) (fun v s1 => wpAny (model X.prog X.w) X.A (pyIter v) (PIE X pins σ tg R) X.xe s1) X.xe s
theorem pi_wp {X : Cx} {tg iter : Expr} : PI X tg iter (wpI X tg iter) := ⟨fun pins s σ H R I h => h pins s I⟩
theorem wI {X : Cx} {tg iter : Expr} {t : TI} {σ : L2.St} {H : Hp} {R : It → Hp → Prop} (h : PI X tg iter t) (q : t σ H R) : wpI X tg iter σ H R := fun pins s I => h.run pins s σ H R I q
/-- the walk tells these things, one by one -/
def JOk (g : G) (J : It) (F0 : Hp) (ds : List D) : Prop := ∀ (F : Hp) (as : List Addr) (μ : Sto) (H : Hp), Same F0 F → SR g F as μ H → ∀ i : Nat, (i = ds.length → J.stop i H) ∧
  ∀ d, ds[i]? = some d → J.go i H ∧ ∀ x H', J.yld i H x H' → ∃ F', Ext F as F' as ∧ SR g F' as μ H' ∧ Rep g F' d x
def PostI (g : G) (W : WX) (F : Hp) (as : List Addr) (σ : L2.St) (R : It → Hp → Prop) : Except Ex (List D) → Sto → Prop
  | .ok ds, μ' => ∀ F' as' H' J, Ext F as F' as' → SR g F' as' μ' H' → JOk g J F' ds → R J H'
  | .error x, μ' => PErr g W F as σ x μ'
structure SI (g : G) (X : Cx) (W : WX) (tg iter : Expr) (m : MI) : Prop where
  run : ∀ (F : Hp) (as : List Addr) (ρ : En) (μ : Sto) (σ : L2.St) (H : Hp) (R : It → Hp → Prop) (r : Except Ex (List D)) (μ' : Sto), m ρ μ = some (r, μ') → SR g F as μ H → ER g F as ρ σ → PostI g W F as σ R r μ' → wpI X tg iter σ H R

section
variable {X : Cx} {pins : List (Addr × Obj)} {σ : L2.St} {H : Hp} {s : Shared} {tg : Expr} {R : It → Hp → Prop} {E : Value → Shared → Prop}
theorem iter_list {a : Addr} {xs : List V} (I1 : Inv X pins σ H s) (hq : SqL X.K H a xs) (q : R (Itl X.K a) H) : wpAny (model X.prog X.w) X.A (pyIter (.ref a)) (PIE X pins σ tg R) E s := by
  obtain ⟨its, rv, p, hz⟩ := I1.list hq
  refine wpAny_pyIter_list p.isList ?_
  refine ⟨s.heap.objs.size, [s.heap.objs.size], _, _, H, rfl, I1.kept (t' := s.toks) fun b o e => Heap.get?_push_of_some _ e, turn_list a _, ⟨_, Heap.get?_push_size _ rfl, rfl, rfl⟩, fun b hb => ?_, q⟩
  have e : b = s.heap.objs.size := by simpa using hb
  subst e
  exact I1.fpOk (Nat.le_refl _) (I1.hok.fresh (Nat.le_refl _))
theorem iter_tup {a : Addr} {xs : List V} (I1 : Inv X pins σ H s) (hq : SqT X.K H a xs) (q : R (Itt X.K a) H) : wpAny (model X.prog X.w) X.A (pyIter (.ref a)) (PIE X pins σ tg R) E s := by
  obtain ⟨its, rv, p, hz⟩ := I1.tuple hq
  refine wpAny_pyIter_tuple (show s.heap.IsTuple a its.toArray from p) ?_
  refine ⟨s.heap.objs.size, [s.heap.objs.size], _, _, H, rfl, I1.kept (t' := s.toks) fun b o e => Heap.get?_push_of_some _ e, turn_tuple a _, ⟨_, Heap.get?_push_size _ rfl, rfl, rfl⟩, fun b hb => ?_, q⟩
  have e : b = s.heap.objs.size := by simpa using hb
  subst e
  exact I1.fpOk (Nat.le_refl _) (I1.hok.fresh (Nat.le_refl _))
theorem iter_str {x : Str} {t : Tok} (I1 : Inv X pins σ H s) (q : R (Its x) H) : wpAny (model X.prog X.w) X.A (pyIter (.str x t)) (PIE X pins σ tg R) E s := by
  cases ha : x.cps.all (· < 128)
  · exact wpAny_pyIter_wide ha (pi_one (tk := s.toks) I1 _ (turn_str _ x t "str_iterator" (.inr rfl)) ⟨_, Heap.get?_push_size _ rfl, rfl, rfl⟩ q)
  · exact wpAny_pyIter_ascii ha (pi_one (tk := s.toks) I1 _ (turn_str _ x t "str_ascii_iterator" (.inl rfl)) ⟨_, Heap.get?_push_size _ rfl, rfl, rfl⟩ q)
end
section
variable {g : G} {F0 : Hp}
theorem seqL_inj {K : PySem.W.Frag} {F H : Hp} {a : Addr} {xs : List V} (h : F a = some (.lst xs)) (e : Same F H) : SqL K H a xs := SqL.of (e _ _ h)
theorem jok_list {a : Addr} {xs : List V} {ds : List D} (h : F0 a = some (.lst xs)) (r : Reps g F0 ds xs) : JOk g (Itl g.K a) F0 ds := by
  intro F as μ H e sr i
  have hs : SqL g.K H a xs := SqL.of (sr.sub _ _ (e _ _ h))
  refine ⟨fun hi => ⟨xs, hs, by rw [r.length, hi]; exact Nat.le_refl _⟩, fun d hd => ?_⟩
  obtain ⟨v, h1, h2⟩ := r.get hd
  refine ⟨⟨xs, v, hs, h1⟩, fun x H' ⟨e1, e2⟩ => ?_⟩
  subst e1
  have := e2 xs hs
  rw [h1] at this
  cases this
  exact ⟨F, .refl, sr, h2.mono e⟩
theorem jok_tup {a : Addr} {xs : List V} {ds : List D} (h : SqT g.K F0 a xs) (r : Reps g F0 ds xs) : JOk g (Itt g.K a) F0 ds := by
  intro F as μ H e sr i
  have hs : SqT g.K H a xs := seqT_mono sr.sub (seqT_mono e h)
  refine ⟨fun hi => ⟨xs, hs, by rw [r.length, hi]; exact Nat.le_refl _⟩, fun d hd => ?_⟩
  obtain ⟨v, h1, h2⟩ := r.get hd
  refine ⟨⟨xs, v, hs, h1⟩, fun x H' ⟨e1, e2⟩ => ?_⟩
  subst e1
  have := e2 xs hs
  rw [h1] at this
  cases this
  exact ⟨F, .refl, sr, h2.mono e⟩
theorem jok_scr {a : Addr} {ns : List Int} (h : SqL g.K F0 a (ns.map V.int)) : JOk g (Itl g.K a) F0 (ns.map .int) := by
  intro F as μ H e sr i
  have hs : SqL g.K H a (ns.map V.int) := sr.sub.seq (e.seq h)
  refine ⟨fun hi => ⟨_, hs, by rw [hi, List.length_map, List.length_map]; exact Nat.le_refl _⟩, fun d hd => ?_⟩
  rw [List.getElem?_map] at hd
  obtain ⟨n, h1, rfl⟩ := Option.map_eq_some_iff.mp hd
  have h2 : (ns.map V.int)[i]? = some (.int n) := by rw [List.getElem?_map, h1]; rfl
  refine ⟨⟨_, _, hs, h2⟩, fun x H' ⟨e1, e2⟩ => ?_⟩
  subst e1
  have := e2 _ hs
  rw [h2] at this
  cases this
  exact ⟨F, .refl, sr, by unfold Rep; rfl⟩
theorem jok_str {x : Str} : JOk g (Its x) F0 (x.cps.toList.map fun c => .str ⟨#[c]⟩) := by
  intro F as μ H e sr i
  refine ⟨fun hi => by rw [hi, List.length_map]; show x.cps.size ≤ x.cps.toList.length; simp, fun d hd => ?_⟩
  rw [List.getElem?_map] at hd
  obtain ⟨c, h1, rfl⟩ := Option.map_eq_some_iff.mp hd
  have h2 : x.cps[i]? = some c := by simpa using h1
  refine ⟨(Array.getElem?_eq_some_iff.mp h2).1, fun y H' ⟨e1, c', e2, e3⟩ => ?_⟩
  subst e1 e3
  rw [h2] at e2
  cases e2
  exact ⟨F, .refl, sr, by unfold Rep; rfl⟩
def rangeD (lo : Int) (n : Nat) : List D := (List.range n).map fun (i : Nat) => .int (lo + i)
theorem jok_range {lo : Int} {n : Nat} : JOk g (Itr lo n) F0 (rangeD lo n) := by
  intro F as μ H e sr i
  unfold rangeD
  refine ⟨fun hi => by rw [hi, List.length_map, List.length_range]; exact Nat.le_refl _, fun d hd => ?_⟩
  rw [List.getElem?_map] at hd
  obtain ⟨k, h1, rfl⟩ := Option.map_eq_some_iff.mp hd
  obtain ⟨h2, h3⟩ := List.getElem?_eq_some_iff.mp h1
  rw [List.length_range] at h2
  rw [List.getElem_range] at h3
  subst h3
  refine ⟨h2, fun y H' ⟨e1, e2⟩ => ?_⟩
  subst e1 e2
  exact ⟨F, .refl, sr, by unfold Rep; rfl⟩
/-- enumerate's things -/
def enumD : Nat → List D → List D
  | _, [] => []
  | i, d :: ds => .tup [.int (i : Nat), d] :: enumD (i + 1) ds
theorem enumD_get : ∀ {ds : List D} {k i : Nat}, (enumD k ds)[i]? = (ds[i]?).map fun d => .tup [.int ((k + i : Nat) : Int), d]
  | [], k, i => by simp [enumD]
  | d :: ds, k, 0 => rfl
  | d :: ds, k, i + 1 => by
    rw [enumD, List.getElem?_cons_succ, List.getElem?_cons_succ, enumD_get]
    have : k + 1 + i = k + (i + 1) := by omega
    rw [this]
theorem enumD_len : ∀ {ds : List D} {k : Nat}, (enumD k ds).length = ds.length
  | [], _ => rfl
  | d :: ds, k => by rw [enumD, List.length_cons, List.length_cons, enumD_len]
theorem jok_enum {a : Addr} {xs : List V} {ds : List D} (h : F0 a = some (.lst xs)) (r : Reps g F0 ds xs) : JOk g (Ite g.K a) F0 (enumD 0 ds) := by
  intro F as μ H e sr i
  have hs : SqL g.K H a xs := SqL.of (sr.sub _ _ (e _ _ h))
  refine ⟨fun hi => ⟨xs, hs, by rw [r.length, hi, enumD_len]; exact Nat.le_refl _⟩, fun d hd => ?_⟩
  rw [enumD_get] at hd
  obtain ⟨d', h0, rfl⟩ := Option.map_eq_some_iff.mp hd
  obtain ⟨v, h1, h2⟩ := r.get h0
  refine ⟨⟨xs, v, hs, h1⟩, fun x H' ⟨T, x', e1, e2, e3, e4⟩ => ?_⟩
  subst e1 e3
  have := e4 xs hs
  rw [h1] at this
  cases this
  obtain ⟨sr', x', y'⟩ := sr.frozen (o := .tup [.int (i : Nat), v]) e2
  refine ⟨_, x', sr', ?_⟩
  unfold Rep
  refine ⟨T, _, rfl, SqT.of y', Reps.cons ?_ (Reps.cons ((h2.mono e).mono x'.1) Reps.nil)⟩
  unfold Rep
  rw [Nat.zero_add]
/-- zip's -/
def zipD : List D → List D → List D
  | d :: ds, e :: es => .tup [d, e] :: zipD ds es
  | _, _ => []
theorem zipD_get : ∀ {ds es : List D} {i : Nat} {x : D}, (zipD ds es)[i]? = some x → ∃ d e, ds[i]? = some d ∧ es[i]? = some e ∧ x = .tup [d, e]
  | [], _, _, _, h => by simp [zipD] at h
  | _ :: _, [], _, _, h => by simp [zipD] at h
  | d :: ds, e :: es, 0, x, h => by
    simp only [zipD, List.getElem?_cons_zero, Option.some.injEq] at h
    exact ⟨d, e, rfl, rfl, h.symm⟩
  | d :: ds, e :: es, i + 1, x, h => by
    simp only [zipD, List.getElem?_cons_succ] at h
    obtain ⟨d', e', h1, h2, h3⟩ := zipD_get h
    exact ⟨d', e', by rw [List.getElem?_cons_succ]; exact h1, by rw [List.getElem?_cons_succ]; exact h2, h3⟩
theorem zipD_len : ∀ {ds es : List D}, (zipD ds es).length = min ds.length es.length
  | [], es => by simp [zipD]
  | _ :: _, [] => by simp [zipD]
  | d :: ds, e :: es => by rw [zipD, List.length_cons, List.length_cons, List.length_cons, zipD_len]; omega
theorem jok_zip {a b : Addr} {xs ys : List V} {ds es : List D} (h : F0 a = some (.lst xs)) (r : Reps g F0 ds xs) (h' : F0 b = some (.lst ys)) (r' : Reps g F0 es ys) : JOk g (Itz g.K a b) F0 (zipD ds es) := by
  intro F as μ H e sr i
  have hs : SqL g.K H a xs := SqL.of (sr.sub _ _ (e _ _ h))
  have hs' : SqL g.K H b ys := SqL.of (sr.sub _ _ (e _ _ h'))
  refine ⟨fun hi => ⟨xs, ys, hs, hs', ?_⟩, fun d hd => ?_⟩
  · rw [zipD_len] at hi
    rw [r.length, r'.length]
    omega
  obtain ⟨d1, d2, k1, k2, rfl⟩ := zipD_get hd
  obtain ⟨v, h1, h2⟩ := r.get k1
  obtain ⟨u, h3, h4⟩ := r'.get k2
  refine ⟨⟨xs, ys, v, u, hs, hs', h1, h3⟩, fun x H' ⟨T, x', y', e1, e2, e3, e4, e5⟩ => ?_⟩
  subst e1 e3
  have q1 := e4 xs hs
  rw [h1] at q1
  cases q1
  have q2 := e5 ys hs'
  rw [h3] at q2
  cases q2
  obtain ⟨sr', x', y'⟩ := sr.frozen (o := .tup [v, u]) e2
  refine ⟨_, x', sr', ?_⟩
  unfold Rep
  exact ⟨T, _, rfl, SqT.of y', Reps.cons ((h2.mono e).mono x'.1) (Reps.cons ((h4.mono e).mono x'.1) Reps.nil)⟩
end

/-- the things of a value -/
def itemsOf : D → Option (List D)
  | .lst ds => some ds
  | .tup ds => some ds
  | .scr ns => some (ns.map .int)
  | .str x => some (x.cps.toList.map fun c => .str ⟨#[c]⟩)
  | _ => none
def finI (f : D → Option (List D)) (s : S) (μ : Sto) : Option (Except Ex (List D) × Sto) := match toD μ (rt s) with
  | some (d, μ2) => (match f d with
    | some ds => some (.ok ds, μ2)
    | none => none)
  | none => none
def iVal (m : ME) : MI := fun ρ μ => andThen (m ρ μ) (finI itemsOf)
def lstOf : D → Option (List D)
  | .lst ds => some ds
  | _ => none
def iEnumM (m : ME) : MI := fun ρ μ => andThen (m ρ μ) (finI fun d => (lstOf d).map (enumD 0))
def finZ (s t : S) (μ : Sto) : Option (Except Ex (List D) × Sto) := match toD μ (rt s) with
  | some (.lst ds, μ2) => (match toD μ2 (rt t) with
    | some (.lst es, μ3) => some (.ok (zipD ds es), μ3)
    | _ => none)
  | _ => none
def iZipM (a b : ME) : MI := fun ρ μ => andThen (mArgs [a, b] ρ μ) fun ss μ1 => match ss with
  | [s, t] => finZ s t μ1
  | _ => none
def inR (i : Int) : Bool := decide (-(2 ^ 62) ≤ i) && decide (i < 2 ^ 62)
def iRange1 (a : ME) : MI := fun ρ μ => andThen (mArgs [a] ρ μ) fun ss μ1 => match vws μ1 ss with
  | some [.int j] => if inR j then some (.ok (rangeD 0 j.toNat), μ1) else none
  | _ => none
def iRange2 (a b : ME) : MI := fun ρ μ => andThen (mArgs [a, b] ρ μ) fun ss μ1 => match vws μ1 ss with
  | some [.int i, .int j] => if inR i && inR j then some (.ok (rangeD i (j - i).toNat), μ1) else none
  | _ => none
section
variable {g : G} {X : Cx} {W : WX} {tg e e2 : Expr} {m m2 : ME} {p pos : Pos}
theorem si_val (hg : g.K = X.K) (he : SE g X W e m) : SI g X W tg e (iVal m) := by
  refine ⟨fun F as ρ μ σ H R r μ' h sr er post pins s I => ?_⟩
  have key : wpE X e σ H fun x H1 => ∀ (s1 : Shared) (v : Value), Inv X pins σ H1 s1 → RelV x v → wpAny (model X.prog X.w) X.A (pyIter v) (PIE X pins σ tg R) X.xe s1 := by
    refine he.then_ (show andThen _ _ = some (r, μ') from h) sr er (fun x e => by subst e; exact post) fun s1 μ1 F1 as1 v H1 h1 x1 sr1 er1 ra1 => ?_
    obtain ⟨F2, x2, sr2, rs2⟩ := root_ok sr1 ra1
    unfold finI at h1
    split at h1
    · rename_i d μ2 hd
      obtain ⟨F3, x3, sr3, r3⟩ := toD_rs sr2 rs2 hd
      split at h1
      · rename_i ds hds
        cases h1
        have fin : ∀ J, JOk g J F3 ds → R J H1 := fun J j => post F3 as1 H1 J ((x1.trans x2).trans x3) sr3 j
        intro st u I1 ru
        unfold itemsOf at hds
        split at hds
        · cases hds
          unfold Rep at r3
          obtain ⟨a, vs, rfl, h3, h4⟩ := r3
          cases ru
          exact iter_list I1 (SqL.of (sr3.sub _ _ h3)) (by rw [← hg]; exact fin _ (jok_list h3 h4))
        · cases hds
          unfold Rep at r3
          obtain ⟨a, vs, rfl, h3, h4⟩ := r3
          cases ru
          exact iter_tup I1 (hg ▸ seqT_mono sr3.sub h3) (by rw [← hg]; exact fin _ (jok_tup h3 h4))
        · cases hds
          unfold Rep at r3
          obtain ⟨a, rfl, h3⟩ := r3
          cases ru
          exact iter_list I1 (hg ▸ sr3.sub.seq h3) (by rw [← hg]; exact fin _ (jok_scr h3))
        · cases hds
          unfold Rep at r3
          subst r3
          obtain ⟨t, rfl⟩ := ru
          exact iter_str I1 (fin _ jok_str)
        · cases hds
      · cases h1
    · cases h1
  exact thn (key pins s I) fun v s1 ⟨x, H1, I1, rx, q⟩ => q s1 v I1 rx
theorem si_range1 (hg : Gl X "range") (hm : X.mg "range" = none) (hn : notStar e = true) (ha : SE g X W e m) : SI g X W tg (.Call (.Name "range" p) [e] [] pos) (iRange1 m) := by
  refine ⟨fun F as ρ μ σ H R r μ' h sr er post => wI (pi_range1 hg hm pa_wp (by rw [starEach_cons hn]; rfl)) ?_⟩
  refine (sa_cons hn ha sa_nil).then_ (show andThen _ _ = some (r, μ') from h) sr er (fun x e => by subst e; exact post) fun ss μ1 F1 as1 vs H1 h1 x1 sr1 er1 rs1 => ?_
  split at h1
  · rename_i j hv
    split at h1
    · rename_i hz
      cases h1
      obtain ⟨v, rfl, h2⟩ := vrs1 (views_rs sr1 rs1 hv)
      cases vr_int h2
      unfold inR at hz
      rw [Bool.and_eq_true, decide_eq_true_eq, decide_eq_true_eq] at hz
      exact ⟨j, rfl, hz.1, hz.2, post F1 as1 H1 _ x1 sr1 jok_range⟩
    · cases h1
  · cases h1
theorem si_range2 (hg : Gl X "range") (hm : X.mg "range" = none) (hn : notStar e = true) (hn2 : notStar e2 = true) (ha : SE g X W e m) (hb : SE g X W e2 m2) : SI g X W tg (.Call (.Name "range" p) [e, e2] [] pos) (iRange2 m m2) := by
  refine ⟨fun F as ρ μ σ H R r μ' h sr er post => wI (pi_range2 hg hm pa_wp (by rw [starEach_cons hn, starEach_cons hn2]; rfl) (by rw [starEach_cons hn2]; rfl)) ?_⟩
  refine (sa_cons hn ha (sa_cons hn2 hb sa_nil)).then_ (show andThen _ _ = some (r, μ') from h) sr er (fun x e => by subst e; exact post) fun ss μ1 F1 as1 vs H1 h1 x1 sr1 er1 rs1 => ?_
  split at h1
  · rename_i i j hv
    split at h1
    · rename_i hz
      cases h1
      obtain ⟨v, u, rfl, h2, h3⟩ := vrs2 (views_rs sr1 rs1 hv)
      cases vr_int h2
      cases vr_int h3
      unfold inR at hz
      simp only [Bool.and_eq_true, decide_eq_true_eq] at hz
      exact ⟨i, j, rfl, ⟨hz.1.1, hz.1.2, hz.2.1, hz.2.2⟩, post F1 as1 H1 _ x1 sr1 jok_range⟩
    · cases h1
  · cases h1
theorem rt_rt (s : S) : rt (rt s) = rt s := by cases s <;> rfl
theorem si_enum {elts : List Expr} {kk : Nat} {tpos : Pos} (hK : g.K = X.K) (hg : Gl X "enumerate") (hm : X.mg "enumerate" = none) (hn : notStar e = true) (ha : SE g X W e m) :
    SI g X W (.Tuple elts kk tpos) (.Call (.Name "enumerate" p) [e] [] pos) (iEnumM m) := by
  refine ⟨fun F as ρ μ σ H R r μ' h sr er post => wI (pi_enum hg hm pa_wp (by rw [starEach_cons hn]; rfl)) ?_⟩
  show wpA X [e] σ H _
  have key : wpE X e σ H fun x H1 => ∃ a xs, x = .ref a ∧ SqL X.K H1 a xs ∧ R (Ite X.K a) H1 := by
    refine ha.then_ (show andThen _ _ = some (r, μ') from h) sr er (fun x e => by subst e; exact post) fun s1 μ1 F1 as1 v H1 h1 x1 sr1 er1 ra1 => ?_
    obtain ⟨F2, x2, sr2, rs2⟩ := root_ok sr1 ra1
    unfold finI at h1
    split at h1
    · rename_i d μ2 hd
      obtain ⟨F3, x3, sr3, r3⟩ := toD_rs sr2 rs2 hd
      split at h1
      · rename_i ds hds
        cases h1
        obtain ⟨l, h2, rfl⟩ := Option.map_eq_some_iff.mp hds
        unfold lstOf at h2
        split at h2
        · cases h2
          unfold Rep at r3
          obtain ⟨a, vs, rfl, h3, h4⟩ := r3
          exact ⟨a, vs, rfl, SqL.of (sr3.sub _ _ h3), by rw [← hK]; exact post F3 as1 H1 _ ((x1.trans x2).trans x3) sr3 (jok_enum h3 h4)⟩
        · cases h2
      · cases h1
    · cases h1
  exact wA (pa_cons pe_wp pa_nil (starEach_cons hn)) (wpE_mono key fun v H' ⟨a, xs, e1, e2, e3⟩ => ⟨a, xs, by rw [e1], e2, e3⟩)
theorem si_zip {elts : List Expr} {kk : Nat} {tpos : Pos} (hK : g.K = X.K) (hg : Gl X "zip") (hm : X.mg "zip" = none) (hn : notStar e = true) (hn2 : notStar e2 = true) (ha : SE g X W e m) (hb : SE g X W e2 m2) :
    SI g X W (.Tuple elts kk tpos) (.Call (.Name "zip" p) [e, e2] [] pos) (iZipM m m2) := by
  refine ⟨fun F as ρ μ σ H R r μ' h sr er post => wI (pi_zip hg hm pa_wp (by rw [starEach_cons hn]) (starEach_plain (by rw [List.all_cons, hn2]; rfl))) ?_⟩
  refine (sa_cons hn ha (sa_cons hn2 hb sa_nil)).then_ (show andThen _ _ = some (r, μ') from h) sr er (fun x e => by subst e; exact post) fun ss μ1 F1 as1 vs H1 h1 x1 sr1 er1 rs1 => ?_
  split at h1
  · rename_i s t
    cases rs1 with
    | cons r1 r2 => cases r2 with
      | cons r2 r3 =>
        cases r3
        unfold finZ at h1
        split at h1
        · rename_i ds μ2 hd
          obtain ⟨F2', x2', sr2', rs2'⟩ := root_ok sr1 r1.ra
          obtain ⟨F2, x2, sr2, q2⟩ := toD_rs sr2' rs2' hd
          split at h1
          · rename_i es μ3 he
            cases h1
            obtain ⟨F3', x3', sr3', rs3'⟩ := root_ok sr2 ((r2.mono x2').mono x2).ra
            obtain ⟨F3, x3, sr3, q3⟩ := toD_rs sr3' rs3' he
            have q2' := (q2.mono x3'.1).mono x3.1
            unfold Rep at q2' q3
            obtain ⟨a, vs, rfl, h3, h4⟩ := q2'
            obtain ⟨b, us, rfl, h5, h6⟩ := q3
            exact ⟨a, b, vs, us, rfl, SqL.of (sr3.sub _ _ h3), SqL.of (sr3.sub _ _ h5), by rw [← hK]; exact post F3 as1 H1 _ ((((x1.trans x2').trans x2).trans x3').trans x3) sr3 (jok_zip h3 h4 h5 h6)⟩
          · cases h1
        · cases h1
  · cases h1
end

/-! ### for -/
def floop (t : MG) (b : MS) : List D → MS
  | [], ρ, μ => some (.nx, ρ, μ)
  | d :: ds, ρ, μ => match t (.val d) ρ μ with
    | none => none
    | some (ρ1, μ1) => match b ρ1 μ1 with
      | some (.nx, ρ2, μ2) => floop t b ds ρ2 μ2
      | some (.ct, ρ2, μ2) => floop t b ds ρ2 μ2
      | some (.bk, ρ2, μ2) => some (.nx, ρ2, μ2)
      | r => r
def sFor (i : MI) (t : MG) (b : MS) : MS := fun ρ μ => exThen (i ρ μ) ρ fun ds μ1 => floop t b ds ρ μ1
def notSet : Expr → Bool
  | .Set _ _ _ => false
  | _ => true
theorem notSet_ok {e : Expr} {env : PySem.Env} (h : notSet e = true) : ∀ x, foldedSetIterable e env x = pure x := by
  cases e <;> first | (exact fun _ => rfl) | (exact absurd (show false = true from h) Bool.false_ne_true)
section
variable {g : G} {X : Cx} {W : WX} {tg iter : Expr} {body : List Stmt} {mi : MI} {t : MG} {b : MS} {pos : Pos}
theorem ss_for (hp : PassesOwn (model X.prog X.w) X.A X.env X.xe) (hc : X.calm = true) (hi : SI g X W tg iter mi) {sl : List Nat} (hg : SG g X tg sl t) (hb : SB g X W body b) (hs : notSet iter = true) : SS g X W (.For tg iter body [] pos) (sFor mi t b) := by
  refine ⟨fun F as ρ μ σ H D fl ρ' μ' h sr er post => wS (ps_for hp hc pi_wp pg_wp pss_wp (notSet_ok hs)) ?_⟩
  show wpI X tg iter σ H _
  rcases exThen_some (show exThen _ _ _ = some (fl, ρ', μ') from h) with ⟨x, h1, h2, h3⟩ | ⟨ds, μ1, h1, h2⟩
  · dsimp only at h1 h2 h3
    subst h2 h3
    exact hi.run F as ρ' μ σ H _ (.error x) μ' h1 sr er (post.err er)
  · refine hi.run F as ρ μ σ H _ (.ok ds) μ1 h1 sr er fun F1 as1 H1 J x1 sr1 j => ?_
    refine ⟨fun i m σ' H' => m = ds.length - i ∧ i ≤ ds.length ∧ ∃ F' as' ρ2 μ2, floop t b (ds.drop i) ρ2 μ2 = some (fl, ρ', μ') ∧ Ext F1 as1 F' as' ∧ SR g F' as' μ2 H' ∧ ER g F' as' ρ2 σ',
      ⟨ds.length, rfl, Nat.zero_le _, F1, as1, ρ, μ1, h2, .refl, sr1, er.mono x1⟩, ?_⟩
    rintro i m σ' H' ⟨rfl, hi', F', as', ρ2, μ2, h3, x2, sr2, er2⟩
    obtain ⟨j1, j2⟩ := j F' as' μ2 H' x2.1 sr2 i
    by_cases hlt : i < ds.length
    · right
      obtain ⟨go, step⟩ := j2 ds[i] (by simp [hlt])
      rw [List.drop_eq_getElem_cons hlt] at h3
      unfold floop at h3
      cases q : t (.val ds[i]) ρ2 μ2 with
      | none => rw [q] at h3; cases h3
      | some z =>
        obtain ⟨ρ3, μ3⟩ := z
        rw [q] at h3
        refine ⟨go, fun σ4 H4 => ∃ F4 as4 ρ4 μ4, floop t b (ds.drop (i + 1)) ρ4 μ4 = some (fl, ρ', μ') ∧ Ext F1 as1 F4 as4 ∧ SR g F4 as4 μ4 H4 ∧ ER g F4 as4 ρ4 σ4, fun σ4 H4 hN => ⟨ds.length - (i + 1), by omega, rfl, hlt, hN⟩, fun x H5 y => ?_⟩
        obtain ⟨F5, x5, sr5, r5⟩ := step x H5 y
        refine hg.run F5 as' ρ2 μ2 σ' H5 (.val ds[i]) x _ ρ3 μ3 q sr5 (er2.mono x5) r5 fun F6 as6 σ6 H6 x6 sr6 er6 _ => ?_
        have xx : Ext F1 as1 F6 as6 := (x2.trans x5).trans x6
        cases q2 : b ρ3 μ3 with
        | none => simp only [q2] at h3; cases h3
        | some z =>
          obtain ⟨fl2, ρ4, μ4⟩ := z
          simp only [q2] at h3
          refine hb.run F6 as6 ρ3 μ3 σ6 H6 _ fl2 ρ4 μ4 q2 sr6 er6 ?_
          cases fl2 with
          | nx => exact fun F7 as7 σ7 H7 x7 sr7 er7 => ⟨F7, as7, ρ4, μ4, h3, xx.trans x7, sr7, er7⟩
          | ct => exact fun F7 as7 σ7 H7 x7 sr7 er7 => ⟨F7, as7, ρ4, μ4, h3, xx.trans x7, sr7, er7⟩
          | bk => cases h3; exact fun F7 as7 σ7 H7 x7 sr7 er7 => post F7 as7 σ7 H7 ((x1.trans xx).trans x7) sr7 er7
          | rt s => cases h3; exact fun F7 as7 v H7 x7 sr7 ra7 => post F7 as7 v H7 ((x1.trans xx).trans x7) sr7 ra7
          | ex x => cases h3; exact fun F7 as7 σ7 cls d H7 x7 sr7 er7 rx7 => post F7 as7 σ7 cls d H7 ((x1.trans xx).trans x7) sr7 er7 rx7
    · left
      have e : i = ds.length := by omega
      rw [e, List.drop_length] at h3
      cases h3
      exact ⟨j1 e, post F' as' σ' H' (x1.trans x2) sr2 er2⟩
end

/-! ### while -/
def wloop (t : MT) (b : MS) : Nat → MS
  | 0, _, _ => none
  | n + 1, ρ, μ => exThen (t ρ μ) ρ fun c μ1 => if c then (match b ρ μ1 with
      | some (.nx, ρ2, μ2) => wloop t b n ρ2 μ2
      | some (.ct, ρ2, μ2) => wloop t b n ρ2 μ2
      | some (.bk, ρ2, μ2) => some (.nx, ρ2, μ2)
      | r => r) else some (.nx, ρ, μ1)
theorem exThen_ex {α : Type} {r : Option (Except Ex α × Sto)} {ρ : En} {f f' : α → Sto → Option (Fl × En × Sto)} {q : Fl × En × Sto} (h : exThen r ρ f = some q) (hf : ∀ a μ q, f a μ = some q → f' a μ = some q) : exThen r ρ f' = some q := by
  rcases r with _ | ⟨_ | a, μ⟩
  · cases h
  · exact h
  · exact hf a μ q h
theorem wloop_mono {t : MT} {b : MS} : ∀ {n m : Nat} {ρ : En} {μ : Sto} {r : Fl × En × Sto}, n ≤ m → wloop t b n ρ μ = some r → wloop t b m ρ μ = some r
  | 0, _, _, _, _, _, h => by cases h
  | n + 1, 0, _, _, _, hl, _ => absurd hl (Nat.not_succ_le_zero n)
  | n + 1, m + 1, ρ, μ, r, hl, h => by
    unfold wloop at h ⊢
    refine exThen_ex h fun k μ1 q hk => ?_
    cases k with
    | false => exact hk
    | true =>
      rw [if_pos rfl] at hk ⊢
      cases e : b ρ μ1 with
      | none => rw [e] at hk; cases hk
      | some z =>
        obtain ⟨fl, ρ2, μ2⟩ := z
        rw [e] at hk
        cases fl with
        | nx => exact wloop_mono (Nat.le_of_succ_le_succ hl) hk
        | ct => exact wloop_mono (Nat.le_of_succ_le_succ hl) hk
        | bk => exact hk
        | rt s => exact hk
        | ex x => exact hk
open Classical in
/-- the loop to its end, however long -/
noncomputable def sWhile (t : MT) (b : MS) : MS := fun ρ μ => if h : ∃ n r, wloop t b n ρ μ = some r then some (choose (choose_spec h)) else none
theorem sWhile_eq {t : MT} {b : MS} {ρ : En} {μ : Sto} {r : Fl × En × Sto} (n : Nat) (h : wloop t b n ρ μ = some r) : sWhile t b ρ μ = some r := by
  unfold sWhile
  have hx : ∃ n r, wloop t b n ρ μ = some r := ⟨n, r, h⟩
  rw [dif_pos hx]
  have h2 := Classical.choose_spec (Classical.choose_spec hx)
  have h3 := wloop_mono (Nat.le_max_left n (Classical.choose hx)) h
  have h4 := wloop_mono (Nat.le_max_right n (Classical.choose hx)) h2
  exact h4.symm.trans h3
theorem sWhile_some {t : MT} {b : MS} {ρ : En} {μ : Sto} {r : Fl × En × Sto} (h : sWhile t b ρ μ = some r) : ∃ n, wloop t b n ρ μ = some r := by
  unfold sWhile at h
  split at h
  · rename_i hx
    cases h
    exact ⟨_, Classical.choose_spec (Classical.choose_spec hx)⟩
  · cases h
section
variable {g : G} {X : Cx} {W : WX} {c : Expr} {body : List Stmt} {t : MT} {b : MS} {pos : Pos}
theorem ss_while (hp : PassesOwn (model X.prog X.w) X.A X.env X.xe) (hc : STe g X W c t) (hb : SB g X W body b) : SS g X W (.While c body [] pos) (sWhile t b) := by
  refine ⟨fun F as ρ μ σ H D fl ρ' μ' h sr er post => wS (ps_while hp pt_wp pss_wp) ?_⟩
  obtain ⟨fuel, h⟩ := sWhile_some h
  refine ⟨fun n σ' H' => ∃ F' as' ρ2 μ2, wloop t b n ρ2 μ2 = some (fl, ρ', μ') ∧ Ext F as F' as' ∧ SR g F' as' μ2 H' ∧ ER g F' as' ρ2 σ', ⟨fuel, F, as, ρ, μ, h, .refl, sr, er⟩, ?_⟩
  rintro n σ' H' ⟨F', as', ρ2, μ2, h3, x2, sr2, er2⟩
  cases n with
  | zero => cases h3
  | succ n =>
    unfold wloop at h3
    refine hc.st h3 sr2 er2 (post.ext x2) fun k μ3 F3 as3 H3 h4 x3 sr3 er3 => ?_
    have xx := x2.trans x3
    cases k with
    | false =>
      rw [if_neg Bool.false_ne_true] at h4 ⊢
      cases h4
      exact post F3 as3 σ' H3 xx sr3 er3
    | true =>
      rw [if_pos rfl] at h4 ⊢
      refine ⟨fun σ4 H4 => ∃ F4 as4 ρ4 μ4, wloop t b n ρ4 μ4 = some (fl, ρ', μ') ∧ Ext F as F4 as4 ∧ SR g F4 as4 μ4 H4 ∧ ER g F4 as4 ρ4 σ4, fun σ4 H4 hN => ⟨n, Nat.lt_succ_self _, hN⟩, ?_⟩
      cases q2 : b ρ2 μ3 with
      | none => rw [q2] at h4; cases h4
      | some z =>
        obtain ⟨fl2, ρ4, μ4⟩ := z
        rw [q2] at h4
        refine hb.run F3 as3 ρ2 μ3 σ' H3 _ fl2 ρ4 μ4 q2 sr3 er3 ?_
        cases fl2 with
        | nx => exact fun F7 as7 σ7 H7 x7 sr7 er7 => ⟨F7, as7, ρ4, μ4, h4, xx.trans x7, sr7, er7⟩
        | ct => exact fun F7 as7 σ7 H7 x7 sr7 er7 => ⟨F7, as7, ρ4, μ4, h4, xx.trans x7, sr7, er7⟩
        | bk => cases h4; exact fun F7 as7 σ7 H7 x7 sr7 er7 => post F7 as7 σ7 H7 (xx.trans x7) sr7 er7
        | rt s => cases h4; exact fun F7 as7 v H7 x7 sr7 ra7 => post F7 as7 v H7 (xx.trans x7) sr7 ra7
        | ex x => cases h4; exact fun F7 as7 σ7 cls d H7 x7 sr7 er7 rx7 => post F7 as7 σ7 cls d H7 (xx.trans x7) sr7 er7 rx7
end
end Sz

set_option Elab.async false
set_option linter.all false
set_option maxRecDepth 100000
set_option maxHeartbeats 4000000
/-! Sz I: comprehensions, stores to places and attributes, an operator's store, raise. -/
namespace Sz
open PySem PySem.Spec L2

/-! ### comprehensions -/
def wipeE (ρ : En) : List Nat → En
  | [] => ρ
  | v :: vs => (wipeE ρ vs).set v none
theorem wipeE_length (ρ : En) : ∀ vs : List Nat, (wipeE ρ vs).length = ρ.length
  | [] => rfl
  | v :: vs => by unfold wipeE; rw [List.length_set, wipeE_length ρ vs]
theorem wipeE_some {ρ : En} {i : Nat} {s : S} : ∀ {vs : List Nat}, (wipeE ρ vs)[i]? = some (some s) → ρ[i]? = some (some s) ∧ i ∉ vs
  | [], h => ⟨h, by simp⟩
  | v :: vs, h => by
    unfold wipeE at h
    by_cases hi : v = i
    · subst hi
      by_cases hv : v < (wipeE ρ vs).length
      · rw [List.getElem?_set_self hv] at h; cases h
      · rw [List.getElem?_eq_none (by simpa using hv)] at h; cases h
    · rw [List.getElem?_set_ne hi] at h
      obtain ⟨h1, h2⟩ := wipeE_some h
      exact ⟨h1, by simp only [List.mem_cons, not_or]; exact ⟨fun e => hi e.symm, h2⟩⟩
theorem ER.wipe {g : G} {F : Hp} {as : List Addr} {ρ : En} {σ : L2.St} (h : ER g F as ρ σ) (vs : List Nat) : ER g F as (wipeE ρ vs) (L2.wipe σ vs) := by
  refine ⟨by rw [wipeE_length, wipe_length]; exact h.len, fun i s q => ?_⟩
  obtain ⟨h1, h2⟩ := wipeE_some q
  obtain ⟨v, h3, h4⟩ := h.at_ i s h1
  exact ⟨v, by rw [wipe_out h2]; exact h3, h4⟩
/-- the element made is put behind the k-th cell's list -/
def cput (k : Nat) (s : S) (μ : Sto) : Option Sto := match toD μ (rt s) with
  | some (d, μ1) => (match μ1[k]? with
    | some (.lst acc) => if acc.length < sizeLine then some (μ1.set k (.lst (acc ++ [d]))) else none
    | _ => none)
  | none => none
def cloop (t : MG) (c : MT) (el : ME) (ρ : En) (k : Nat) : List D → Sto → Option Sto
  | [], μ => some μ
  | d :: ds, μ => match t (.val d) ρ μ with
    | none => none
    | some (ρ1, μ1) => match c ρ1 μ1 with
      | some (.ok true, μ2) => (match el ρ1 μ2 with
        | some (.ok s, μ3) => (match cput k s μ3 with
          | some μ4 => cloop t c el ρ k ds μ4
          | none => none)
        | _ => none)
      | some (.ok false, μ2) => cloop t c el ρ k ds μ2
      | _ => none
def finC (k : Nat) : Option Sto → Option R
  | some μ => (match μ[k]? with
    | some (.lst acc) => some (.ok (.fr acc), μ.take k)
    | _ => none)
  | none => none
def mComp (i : MI) (t : MG) (c : MT) (el : ME) (own : List Nat) : ME := fun ρ μ => andThen (i ρ μ) fun ds μ1 => finC μ1.length (cloop t c el (wipeE ρ own) μ1.length ds (μ1 ++ [.lst []]))
def tTrue : MT := fun _ μ => some (.ok true, μ)
/-- no exception is taken there -/
abbrev W0 : WX := fun _ _ _ _ => False
abbrev blkX (X : Cx) (scope : Scope) (s : Shared) (H : Hp) (C : Addr) (cl : List (Str × Addr)) (fp : List Addr) : Cx := X.blk s H scope (compEnvC scope cl C X.env) fp
/-- a clause's tests -/
inductive STs (g : G) (X : Cx) (scope : Scope) : List Expr → MT → Prop
  | nil : STs g X scope [] tTrue
  | one {e : Expr} {c : MT} (h : ∀ s H C cl fp, STe g (blkX X scope s H C cl fp) W0 e c) : STs g X scope [e] c
def ttOf (X : Cx) (scope : Scope) : List Expr → TT
  | [] => tYes
  | e :: _ => fun σ H Q => ∀ s H' C cl fp, wpT (blkX X scope s H' C cl fp) e σ H Q
section
variable {g : G} {X : Cx} {W : WX} {tg iter elt : Expr} {ifs : List Expr} {scope : Scope} {mi : MI} {t : MG} {c : MT} {el : ME} {pos : Pos} {ow : List (Str × Nat)} {sl : List Nat}
theorem comp_run {F : Hp} {as : List Addr} {ρ : En} {μ : Sto} {σ : L2.St} {H : Hp} {Q : VK} {r : Except Ex S} {μ' : Sto} (hi : SI g X W tg iter mi) (hg : ∀ s H C cl fp, SG g (blkX X scope s H C cl fp) tg sl t) (hsl : ∀ i ∈ sl, i ∈ ow.map (·.2))
    (ht : STs g X scope ifs c) (he : ∀ s H C cl fp, SE g (blkX X scope s H C cl fp) W0 elt el) (h : mComp mi t c el (ow.map (·.2)) ρ μ = some (r, μ')) (sr : SR g F as μ H) (er : ER g F as ρ σ) (post : PostE g W F as σ Q r μ') :
    tLc (wpI X tg iter) (fun v σ H Q => ∀ s H' C cl fp, wpG (blkX X scope s H' C cl fp) tg v σ H Q) (ttOf X scope ifs)
      (fun σ H Q => ∀ s H' C cl fp, wpE (blkX X scope s H' C cl fp) elt σ H Q) (ow.map (·.2)) σ H Q := by
  rcases andThen_some (show andThen _ _ = some (r, μ') from h) with ⟨x, h1, h2⟩ | ⟨ds, μ1, h1, h2⟩
  · dsimp only at h1 h2
    subst h2
    exact hi.run F as ρ μ σ H _ (.error x) μ' h1 sr er post
  refine hi.run F as ρ μ σ H _ (.ok ds) μ1 h1 sr er fun F1 as1 H1 J x1 sr1 j => ?_
  intro Dl hD
  have er1 := (er.mono x1).wipe (ow.map (·.2))
  cases hq : cloop t c el (wipeE ρ (ow.map (·.2))) μ1.length ds (μ1 ++ [.lst []]) with
  | none => rw [hq] at h2; cases h2
  | some μf =>
    rw [hq] at h2
    obtain ⟨sr2, f2, n2⟩ := sr1.loose (o := .lst []) hD
    obtain ⟨sr3, x3⟩ := sr2.push (c := .lst []) upd_same n2 ⟨f2, [], upd_same, Reps.nil⟩
    have hk0 : (as1 ++ [Dl])[μ1.length]? = some Dl := by rw [← sr1.len, List.getElem?_append_right (Nat.le_refl _), Nat.sub_self]; rfl
    refine ⟨fun i m H' => m = ds.length - i ∧ i ≤ ds.length ∧ ∃ F' as' μ2, cloop t c el (wipeE ρ (ow.map (·.2))) μ1.length (ds.drop i) μ2 = some μf ∧ Ext F1 (as1 ++ [Dl]) F' as' ∧ SR g F' as' μ2 H',
      ⟨ds.length, rfl, Nat.zero_le _, F1, as1 ++ [Dl], _, hq, .refl, sr3⟩, ?_⟩
    rintro i m H' ⟨rfl, hi', F', as', μ2, h3, x2, sr2⟩
    obtain ⟨j1, j2⟩ := j F' as' μ2 H' x2.1 sr2 i
    have hka : as'[μ1.length]? = some Dl := by
      obtain ⟨_, l, rfl⟩ := x2
      rw [List.getElem?_append_left (List.getElem?_eq_some_iff.mp hk0).1]
      exact hk0
    by_cases hlt : i < ds.length
    · right
      obtain ⟨go, step⟩ := j2 ds[i] (by simp [hlt])
      rw [List.drop_eq_getElem_cons hlt] at h3
      unfold cloop at h3
      cases q : t (.val ds[i]) (wipeE ρ (ow.map (·.2))) μ2 with
      | none => simp only [q] at h3; cases h3
      | some z =>
        obtain ⟨ρ3, μ3⟩ := z
        simp only [q] at h3
        refine ⟨go, fun H4 => ∃ F4 as4 μ4, cloop t c el (wipeE ρ (ow.map (·.2))) μ1.length (ds.drop (i + 1)) μ4 = some μf ∧ Ext F1 (as1 ++ [Dl]) F4 as4 ∧ SR g F4 as4 μ4 H4, fun H4 hN => ⟨ds.length - (i + 1), by omega, rfl, hlt, hN⟩, fun x H5 y => ?_⟩
        obtain ⟨F5, x5, sr5, r5⟩ := step x H5 y
        intro s H' C cl fp
        refine (hg s H' C cl fp).run F5 as' _ μ2 _ H5 (.val ds[i]) x _ ρ3 μ3 q sr5 (er1.mono (Ext.trans (show Ext F1 as1 F1 (as1 ++ [Dl]) from x3) (x2.trans x5))) r5 fun F6 as6 σ6 H6 x6 sr6 er6 w6 => ?_
        have xx : Ext F1 (as1 ++ [Dl]) F6 as6 := (x2.trans x5).trans x6
        have w7 : L2.wipe σ6 (ow.map (·.2)) = L2.wipe σ (ow.map (·.2)) := by
          rw [w6 _ hsl]
          apply List.ext_getElem?
          intro k
          by_cases hk : k ∈ ow.map (·.2)
          · rw [wipe_in hk, wipe_in hk, wipe_length]
          · rw [wipe_out hk]
        refine ⟨w7, ?_⟩
        -- the test, then the element
        have rest : ∀ (F7 : Hp) (as7 : List Addr) (μ7 : Sto) (H7 : Hp) (k : Bool), Ext F6 as6 F7 as7 → SR g F7 as7 μ7 H7 → c ρ3 μ3 = some (.ok k, μ7) →
            (if k = true then (∀ s H' C cl fp, wpE (blkX X scope s H' C cl fp) elt σ6 H7 fun y H4 => ∃ acc, H4 Dl = some (.lst acc) ∧ acc.length < sizeLine ∧ (fun H4 => ∃ F4 as4 μ4, cloop t c el (wipeE ρ (ow.map (·.2))) μ1.length (ds.drop (i + 1)) μ4 = some μf ∧ Ext F1 (as1 ++ [Dl]) F4 as4 ∧ SR g F4 as4 μ4 H4) (upd H4 Dl (.lst (acc ++ [y]))))
              else (fun H4 => ∃ F4 as4 μ4, cloop t c el (wipeE ρ (ow.map (·.2))) μ1.length (ds.drop (i + 1)) μ4 = some μf ∧ Ext F1 (as1 ++ [Dl]) F4 as4 ∧ SR g F4 as4 μ4 H4) H7) := by
          intro F7 as7 μ7 H7 k x7 sr7 hc
          rw [hc] at h3
          cases k with
          | false =>
            rw [if_neg Bool.false_ne_true]
            exact ⟨F7, as7, μ7, h3, xx.trans x7, sr7⟩
          | true =>
            rw [if_pos rfl]
            intro s H' C cl fp
            cases q2 : el ρ3 μ7 with
            | none => simp only [q2] at h3; cases h3
            | some z =>
              obtain ⟨r8, μ8⟩ := z
              cases r8 with
              | error _ => simp only [q2] at h3; cases h3
              | ok s8 =>
                simp only [q2] at h3
                refine (he s H' C cl fp).run F7 as7 ρ3 μ7 σ6 H7 _ (.ok s8) μ8 q2 sr7 (er6.mono x7) fun F8 as8 v8 H8 x8 sr8 ra8 => ?_
                cases q3 : cput μ1.length s8 μ8 with
                | none => simp only [q3] at h3; cases h3
                | some μ9 =>
                  simp only [q3] at h3
                  unfold cput at q3
                  split at q3
                  · rename_i d μa hd
                    obtain ⟨F8', x8', sr8', rs8⟩ := root_ok sr8 ra8
                    obtain ⟨F9, x9, sr9, r9⟩ := toD_rs sr8' rs8 hd
                    have xy : Ext F1 (as1 ++ [Dl]) F9 as8 := ((xx.trans x7).trans x8).trans (x8'.trans x9)
                    have hkb : as8[μ1.length]? = some Dl := by
                      obtain ⟨_, l, e⟩ := xy
                      rw [e, List.getElem?_append_left (List.getElem?_eq_some_iff.mp hk0).1]
                      exact hk0
                    split at q3
                    · rename_i acc hacc
                      split at q3
                      · rename_i hz
                        cases q3
                        obtain ⟨fa, vs, ha, rv⟩ := sr9.cells _ _ _ hkb hacc
                        refine ⟨vs, ha, by rw [rv.length]; exact hz, F9, as8, _, h3, xy, ?_⟩
                        exact sr9.write hkb fa ⟨fa, _, upd_same, rv.append (Reps.cons r9 Reps.nil)⟩
                      · cases q3
                    · cases q3
                  · cases q3
        cases ht with
        | nil => exact rest F6 as6 μ3 H6 true .refl sr6 rfl
        | one hte =>
          intro s H' C cl fp
          cases q2 : c ρ3 μ3 with
          | none => simp only [q2] at h3; cases h3
          | some z =>
            obtain ⟨r7, μ7⟩ := z
            cases r7 with
            | error _ => simp only [q2] at h3; cases h3
            | ok k => exact (hte s H' C cl fp).run F6 as6 ρ3 μ3 σ6 H6 _ (.ok k) μ7 q2 sr6 er6 fun F7 as7 H7 x7 sr7 => rest F7 as7 μ7 H7 k x7 sr7 q2
    · left
      have e : i = ds.length := by omega
      refine ⟨j1 e, ?_⟩
      rw [e, List.drop_length] at h3
      cases h3
      replace h2 : (match μf[μ1.length]? with | some (.lst acc) => some (Except.ok (S.fr acc), μf.take μ1.length) | _ => none) = some (r, μ') := h2
      split at h2
      · rename_i acc hacc
        cases h2
        obtain ⟨fa, vs, ha, rv⟩ := sr2.cells _ _ _ hka hacc
        have x9 : Ext F1 as1 F' as' := Ext.trans (show Ext F1 as1 F1 (as1 ++ [Dl]) from x3) x2
        refine post F' as1 _ H' (x1.trans ⟨x9.1, [], by rw [List.append_nil]⟩) (sr1.back x9 sr2) (ra_lst ha fa ?_ rv)
        intro hm
        exact n2 hm
      · cases h2
theorem comp_parts (hg : ∀ s H C cl fp, SG g (blkX X scope s H C cl fp) tg sl t) (ht : STs g X scope ifs c) :
    (∀ (s : Shared) (H : Hp) (C : Addr) (cl : List (Str × Addr)) (fp : List Addr), PG (X.blk s H scope (compEnvC scope cl C X.env) fp) tg (fun v σ H Q => ∀ s H' C cl fp, wpG (blkX X scope s H' C cl fp) tg v σ H Q)) ∧
    (∀ (s : Shared) (H : Hp) (C : Addr) (cl : List (Str × Addr)) (fp : List Addr), PTs (X.blk s H scope (compEnvC scope cl C X.env) fp) ifs (ttOf X scope ifs)) ∧
    (∀ (s : Shared) (H : Hp) (C : Addr) (cl : List (Str × Addr)) (fp : List Addr), PE (X.blk s H scope (compEnvC scope cl C X.env) fp) elt (fun σ H Q => ∀ s H' C cl fp, wpE (blkX X scope s H' C cl fp) elt σ H Q)) := by
  refine ⟨fun s H C cl fp => ⟨fun pins s' σ H' v u Q I r h => h s H C cl fp pins s' u I r⟩, ?_, fun s H C cl fp => ⟨fun pins s' σ H' Q I h => h s H C cl fp pins s' I⟩⟩
  cases ht with
  | nil => exact fun s H C cl fp => pts_nil
  | one _ => exact fun s H C cl fp => pts_one ⟨fun pins s' σ H' Q I h => h s H C cl fp pins s' I⟩
theorem se_comp (hc : X.calm = true) (hN : X.N.Nodup) (hi : SI g X W tg iter mi) (ok : BlkOk X.N X.env.scope scope ow) (hg : ∀ s H C cl fp, SG g (blkX X scope s H C cl fp) tg sl t) (hsl : ∀ i ∈ sl, i ∈ ow.map (·.2))
    (ht : STs g X scope ifs c) (he : ∀ s H C cl fp, SE g (blkX X scope s H C cl fp) W0 elt el) (hs : notSet iter = true) : SE g X W (.ListComp elt [⟨tg, iter, ifs, 0⟩] scope pos) (mComp mi t c el (ow.map (·.2))) := by
  obtain ⟨p1, p2, p3⟩ := comp_parts (elt := elt) hg ht
  exact ⟨fun F as ρ μ σ H Q r μ' h sr er post => wE (pe_lc hc hN pi_wp ok p1 p2 p3 (notSet_ok hs)) (comp_run hi hg hsl ht he h sr er post)⟩
theorem ss_setLc {i : Nat} {y : Str} {py spos : Pos} {fl : Bool} (hc : X.calm = true) (hN : X.N.Nodup) (hy : X.N[i]? = some y) (hyl : X.env.scope.names.lookup y = some .local)
    (hsw : swapsWith (.ListComp elt [⟨tg, iter, ifs, 0⟩] scope pos) (some (.Name y py)) spos.line X.env = pure true) (hi : SI g X W tg iter mi) (ok : BlkOk X.N X.env.scope scope ow) (hg : ∀ s H C cl fp, SG g (blkX X scope s H C cl fp) tg sl t) (hsl : ∀ i ∈ sl, i ∈ ow.map (·.2))
    (ht : STs g X scope ifs c) (he : ∀ s H C cl fp, SE g (blkX X scope s H C cl fp) W0 elt el) (hs : notSet iter = true) : SS g X W (.Assign [.Name y py] (.ListComp elt [⟨tg, iter, ifs, 0⟩] scope pos) spos) (sAsg (gNm i fl) (mComp mi t c el (ow.map (·.2)))) := by
  obtain ⟨p1, p2, p3⟩ := comp_parts (elt := elt) hg ht
  refine ⟨fun F as ρ μ σ H D fl' ρ' μ' h sr er post => wS (ps_setLc hc hN hy hyl hsw pi_wp ok p1 p2 p3 (notSet_ok hs)) ?_⟩
  show tLc (wpI X tg iter) (fun v σ H Q => ∀ s H' C cl fp, wpG (blkX X scope s H' C cl fp) tg v σ H Q) (ttOf X scope ifs) (fun σ H Q => ∀ s H' C cl fp, wpE (blkX X scope s H' C cl fp) elt σ H Q) (ow.map (·.2)) σ H fun x H1 => gName i x σ H1 D.nx
  rcases exThen_some (show exThen _ _ _ = some (fl', ρ', μ') from h) with ⟨x, h1, h2, h3⟩ | ⟨s, μ1, h1, h2⟩
  · dsimp only at h1 h2 h3
    subst h2 h3
    exact comp_run hi hg hsl ht he h1 sr er (post.err er)
  · refine comp_run hi hg hsl ht he h1 sr er fun F1 as1 v H1 x1 sr1 ra1 => ?_
    obtain ⟨F2, as2, x2, sr2, rs2⟩ := own_ok fl sr1 ra1
    cases h2
    exact post F2 as2 _ H1 (x1.trans x2) sr2 (((er.mono x1).mono x2).set rs2)
end

/-! ### stores to places -/
def gSubM (o i : ME) : MG := fun s ρ μ => match toD μ (rt s) with
  | some (d, μ1) => (match o ρ μ1 with
    | some (.ok so, μ2) => (match i ρ μ2 with
      | some (.ok si, μ3) => (match rt so, vw μ3 si with
        | .cell k, some (.int j) => (match μ3[k]? with
          | some (.lst ds) => (match ixN ds.length j with
            | some p => some (ρ, μ3.set k (.lst (ds.set p d)))
            | none => none)
          | _ => none)
        | _, _ => none)
      | _ => none)
    | _ => none)
  | none => none
section
variable {g : G} {X : Cx} {W : WX} {o i : Expr} {mo mi : ME} {pos : Pos}
theorem sub_asg {o i : Expr} {pos : Pos} {env : PySem.Env} (hn : notSlice i = true) (v : Value) : assign (.Subscript o i pos) env v = (do
      let ov ← holding [v] (eval o env)
      let iv ← holding [v, ov] (eval i env)
      standAt pos
      holding [v, ov, iv] (setItem ov iv v)
      release [v, ov, iv] []) := by
  cases i <;> first | rfl | (unfold notSlice at hn; cases hn)
theorem sg_sub (hn : notSlice i = true) (ho : SE g X W o mo) (hi : SE g X W i mi) : SG g X (.Subscript o i pos) [] (gSubM mo mi) := by
  refine ⟨fun F as ρ μ σ H s v Q ρ' μ' h sr er ra k pins st u I ru => ?_⟩
  refine (pg_sub pe_wp pe_wp set_list (sub_asg hn)).run pins st σ H v u Q I ru ?_
  obtain ⟨F0, x0, sr0, rs0⟩ := root_ok sr ra
  unfold gSubM at h
  split at h
  · rename_i d μ1 hd
    obtain ⟨F1, x1, sr1, r1⟩ := toD_rs sr0 rs0 hd
    split at h
    · rename_i so μ2 h2
      refine ho.run F1 as ρ μ1 σ H _ (.ok so) μ2 h2 sr1 ((er.mono x0).mono x1) fun F2 as2 v2 H2 x2 sr2 ra2 => ?_
      obtain ⟨F2', x2', sr2', rs2⟩ := root_ok sr2 ra2
      have xx := ((x0.trans x1).trans x2).trans x2'
      split at h
      · rename_i si μ3 h3
        refine hi.run F2' as2 ρ μ2 σ H2 _ (.ok si) μ3 h3 sr2' (er.mono xx) fun F3 as3 v3 H3 x3 sr3 ra3 => ?_
        split at h
        · rename_i kk j hk hj
          have rk := rs2.mono x3
          rw [hk] at rk
          obtain ⟨a, ha, rfl⟩ := (show ∃ a, as3[kk]? = some a ∧ v2 = .ref a from rk)
          cases vr_int (view_ra sr3 ra3 hj)
          split at h
          · rename_i ds hds
            split at h
            · rename_i p hp
              cases h
              obtain ⟨fa, vs, hv, rv⟩ := sr3.cells _ _ _ ha hds
              refine ⟨a, vs, j, p, rfl, rfl, hv, by rw [rv.length]; exact hp, ?_⟩
              have rd : Rep g F3 d v := ((r1.mono x2.1).mono x2'.1).mono x3.1
              exact k F3 as3 σ _ (xx.trans x3) (sr3.write ha fa ⟨fa, _, upd_same, Reps.set rd p rv⟩) (er.mono (xx.trans x3)) fun _ _ => rfl
            · cases h
          · cases h
        · cases h
      · cases h
    · cases h
  · cases h
end

/-! ### stores to an attribute of an instance in the making -/
def putD (f : Str) (d : D) : List (Str × D) → List (Str × D)
  | [] => [(f, d)]
  | (x, y) :: r => if x = f then (x, d) :: r else (x, y) :: putD f d r
theorem putD_rep {g : G} {F : Hp} {f : Str} {d : D} {v : V} (hd : Rep g F d v) : ∀ {fs : List (Str × D)} {vs : List V}, vs.length = fs.length → Reps g F (fs.map (·.2)) vs →
    ∃ vs', putF f v ((fs.map (·.1)).zip vs) = ((putD f d fs).map (·.1)).zip vs' ∧ vs'.length = (putD f d fs).length ∧ Reps g F ((putD f d fs).map (·.2)) vs'
  | [], vs, hl, h => by
    rw [Reps.nil_iff.mp h]
    exact ⟨[v], rfl, rfl, Reps.cons hd Reps.nil⟩
  | (x, y) :: r, vs, hl, h => by
    obtain ⟨u, us, rfl, h1, h2⟩ := Reps.cons_iff.mp h
    by_cases e : x = f
    · refine ⟨v :: us, ?_, ?_, ?_⟩
      · show putF f v ((x, u) :: (r.map (·.1)).zip us) = _
        unfold putD
        rw [if_pos e]
        show (if x = f then (x, v) :: _ else _) = _
        rw [if_pos e]
        rfl
      · unfold putD
        rw [if_pos e]
        simpa using hl
      · unfold putD
        rw [if_pos e]
        exact Reps.cons hd h2
    · obtain ⟨vs', e1, e2, e3⟩ := putD_rep hd (fs := r) (vs := us) (by simpa using hl) h2
      refine ⟨u :: vs', ?_, ?_, ?_⟩
      · show putF f v ((x, u) :: (r.map (·.1)).zip us) = _
        unfold putD
        rw [if_neg e]
        show (if x = f then _ else (x, u) :: putF f v _) = _
        rw [if_neg e, e1]
        rfl
      · unfold putD
        rw [if_neg e, List.length_cons, List.length_cons, e2]
      · unfold putD
        rw [if_neg e]
        exact Reps.cons h1 e3
def sFldM (n : Nat) (f : Str) (o m : ME) : MS := fun ρ μ => exThen (m ρ μ) ρ fun s μ1 => match toD μ1 (rt s) with
  | some (d, μ2) => exThen (o ρ μ2) ρ fun so μ3 => match rt so with
    | .cell k => (match μ3[k]? with
      | some (.ins c fs) => if c < n ∧ fs.length < 1000 then some (.nx, ρ, μ3.set k (.ins c (putD f d fs))) else none
      | _ => none)
    | _ => none
  | none => none
theorem swaps_attr {e o : Expr} {f : Str} {p : Pos} {l : Nat} {env : PySem.Env} : swapsWith e (some (.Attribute o f p)) l env = pure false := by
  cases e <;> rfl
section
variable {g : G} {X : Cx} {W : WX} {o e : Expr} {mo m : ME} {f : Str} {pos pos' : Pos} {n : Nat}
theorem ss_fld (hK : g.K = X.K) (hcl : ∀ c, c < n → Cls g.K (g.cad c) ∧ NoAttr g.K (g.cad c) f) (ho : SE g X W o mo) (he : SE g X W e m) : SS g X W (.Assign [.Attribute o f pos'] e pos) (sFldM n f mo m) := by
  refine ⟨fun F as ρ μ σ H D fl ρ' μ' h sr er post => wS (ps_fld pe_wp pe_wp swaps_attr) ?_⟩
  refine he.st (show exThen _ _ _ = some (fl, ρ', μ') from h) sr er post fun s μ1 F1 as1 v H1 h1 x1 sr1 er1 ra1 => ?_
  obtain ⟨F2, x2, sr2, rs2⟩ := root_ok sr1 ra1
  split at h1
  · rename_i d μ2 hd
    obtain ⟨F3, x3, sr3, r3⟩ := toD_rs sr2 rs2 hd
    have xx := x2.trans x3
    refine ho.st h1 sr3 (er1.mono xx) (post.ext (x1.trans xx)) fun so μ4 F4 as4 v4 H4 h4 x4 sr4 er4 ra4 => ?_
    obtain ⟨F5, x5, sr5, rs5⟩ := root_ok sr4 ra4
    split at h4
    · rename_i k hk
      rw [hk] at rs5
      obtain ⟨a, ha, rfl⟩ := (show ∃ a, as4[k]? = some a ∧ v4 = .ref a from rs5)
      split at h4
      · rename_i c fs hc
        split at h4
        · rename_i hz
          cases h4
          obtain ⟨fa, dx, vs, h6, h7, h8⟩ := sr5.cells _ _ _ ha hc
          obtain ⟨c1, c2⟩ := hcl c hz.1
          have hlen : ((fs.map (·.1)).zip vs).length < 1000 := by rw [List.length_zip, List.length_map, h7, Nat.min_self]; exact hz.2
          obtain ⟨vs', e1, e2, e3⟩ := putD_rep (f := f) ((r3.mono x4.1).mono x5.1) h7 h8
          refine ⟨a, _, dx, _, rfl, h6, hK ▸ c1, hK ▸ c2, hlen, ?_⟩
          rw [e1]
          exact post F5 as4 σ _ (((x1.trans xx).trans x4).trans x5) (sr5.write ha fa ⟨fa, dx, vs', upd_same, e2, e3⟩) (er4.mono x5)
        · cases h4
      · cases h4
    · cases h4
  · cases h1
end

/-! ### an operator's store to a name -/
def sAug (op : D → D → Option S) (i : Nat) (m : ME) : MS := fun ρ μ => match ρ[i]? with
  | some (some (.val x)) => exThen (m ρ μ) ρ fun s μ1 => (match vw μ1 s with
    | some y => (match op x y with
      | some (.val z) => some (.nx, ρ.set i (some (.val z)), μ1)
      | _ => none)
    | none => none)
  | _ => none
def dIAdd : D → D → Option S
  | .int i, .int j => some (.val (.int (i + j)))
  | .str s, .str t => if s.length + t.length ≤ sizeLine then some (.val (.str (s ++ t))) else none
  | _, _ => none
def dISub : D → D → Option S
  | .int i, .int j => some (.val (.int (i - j)))
  | _, _ => none
section
variable {g : G} {X : Cx} {W : WX} {e : Expr} {m : ME} {pos pos' : Pos}
theorem ok_iadd : OpOk g X (inplaceOp .Add) dIAdd := by
  intro x y s F as μ H v u Q e sr hx hy k
  unfold dIAdd at e
  split at e
  · cases e
    cases vr_int hx
    cases vr_int hy
    exact oc iop_add ⟨_, _, rfl, rfl, k F as _ H .refl sr ra_int⟩
  · split at e
    · rename_i hz
      cases e
      cases vr_str hx
      cases vr_str hy
      exact oc iop_add_str ⟨_, _, rfl, rfl, hz, k F as _ H .refl sr ra_str⟩
    · cases e
  · cases e
theorem ok_isub : OpOk g X (inplaceOp .Sub) dISub := by
  intro x y s F as μ H v u Q e sr hx hy k
  unfold dISub at e
  split at e
  · cases e
    cases vr_int hx
    cases vr_int hy
    exact oc iop_sub ⟨_, _, rfl, rfl, k F as _ H .refl sr ra_int⟩
  · cases e
theorem ss_aug {i : Nat} {x : Str} {op : Operator} {dop : D → D → Option S} (hN : X.N.Nodup) (hi : X.N[i]? = some x) (hx : Loc X.env.scope x) (hf : X.fn x = true ∨ X.env.scope.names.lookup x = some .local) (ho : OpOk g X (inplaceOp op) dop) (he : SE g X W e m) :
    SS g X W (.AugAssign (.Name x pos') op e pos) (sAug dop i m) := by
  refine ⟨fun F as ρ μ σ H D fl ρ' μ' h sr er post => wS (ps_aug (ti := rcan X (inplaceOp op)) hN hi hx pe_wp (fun pins s σ H x y v u Q I rx ry h => h pins s σ v u I rx ry) hf) ?_⟩
  unfold sAug at h
  split at h
  · rename_i z hz
    obtain ⟨v, e1, e2⟩ := er.at_ i _ hz
    refine ⟨v, e1, ?_⟩
    refine he.st h sr er post fun s μ1 F1 as1 u H1 h1 x1 sr1 er1 ra1 => ?_
    split at h1
    · rename_i y hy
      split at h1
      · rename_i w hw
        cases h1
        refine ho z y _ F1 as1 _ H1 v u _ hw sr1 (.inr (Rep.mono x1.1 e2)) (view_ra sr1 ra1 hy) fun F' as' w' H' e' r' q => ?_
        exact post F' as' _ H' (x1.trans e') r' ((er1.mono e').set q)
      · cases h1
    · cases h1
  · cases h
end

/-! ### raise -/
def sRaise (c : Nat) : MS := fun ρ μ => some (.ex (.own c []), ρ, μ)
/-- an own exception class without __init__, as the head has it -/
structure XcF (g : G) (K : PySem.W.Frag) (c : Nat) : Prop where
  ok : ∃ (B newId initId : String) (bmB : List Value), ExcBaseFacts B newId initId bmB ∧ PySem.W.excIn K (g.cad c) bmB newId = true
  kp : PySem.W.keepIn K (.ref (g.cad c)) = true
  b : PySem.W.subIn K (.ref (g.cad c)) (.type "BaseException") = some true
  t : PySem.W.typeIn K (.ref (g.cad c)) = some (.type "type")
theorem ss_raise {g : G} {X : Cx} {W : WX} {c : Nat} {x m : Str} {j : Nat} {p p2 pos pos' : Pos} (hc : X.calm = true) (tk : Takes X W) (xf : XcF g X.K c) (hg : Gl X x) (hm : X.mg x = some (.ref (g.cad c))) (hdb : (x == ("__debug__" : Str)) = false) :
    SS g X W (.Raise (some (.Call (.Name x p) [.Constant (.str m) j p2] [] pos)) none pos') (sRaise c) := by
  obtain ⟨B, newId, initId, bmB, fB, q⟩ := xf.ok
  refine ⟨fun F as ρ μ σ H D fl ρ' μ' h sr er post => wS (ps_raise hc tk (pmk_own fB q hm xf.kp (raises_own xf.b xf.t) hg hdb)) ?_⟩
  cases h
  exact post F as σ _ none H .refl sr er ⟨rfl, .inl ⟨rfl, rfl⟩⟩
end Sz

set_option Elab.async false
set_option linter.all false
set_option maxRecDepth 100000
set_option maxHeartbeats 4000000
/-! Sz J: contexts, looks, a def as a whole. -/
namespace Sz
open PySem PySem.Spec L2

/-! ### what isn't covered -/
def mNo : ME := fun _ _ => none
def tNo : MT := fun _ _ => none
def sNo : MS := fun _ _ => none
section
variable {g : G} {X : Cx} {W : WX}
theorem se_no {e : Expr} : SE g X W e mNo := ⟨fun F as ρ μ σ H Q r μ' h => by cases h⟩
theorem st_no {e : Expr} : STe g X W e tNo := ⟨fun F as ρ μ σ H Q r μ' h => by cases h⟩
theorem ss_no {s : Stmt} : SS g X W s sNo := ⟨fun F as ρ μ σ H D fl ρ' μ' h => by cases h⟩
theorem sb_no {s : List Stmt} : SB g X W s sNo := ⟨fun F as ρ μ σ H D fl ρ' μ' h => by cases h⟩
end

/-! ### where code runs -/
/-- the module as the head has it: names that stand for nothing of its own, names of defs and classes -/
structure Tb (g : G) (mg : Str → Option Value) (frees globs : List Str) : Prop where
  fr : ∀ x, frees.contains x = true → mg x = none
  gl : ∀ x, globs.contains x = true → mg x = some (.ref (He.ga g.K x)) ∧ PySem.W.keepIn g.K (.ref (He.ga g.K x)) = true
structure Ct (g : G) (P : Program) (w : World) (mg : Str → Option Value) (base : Heap) (k : Nat) (N : List Str) (sc : Scope) (own : Bool) (X : Cx) (W : WX) : Prop where
  hP : X.prog = P
  hw : X.w = w
  hK : X.K = g.K
  hmg : X.mg = mg
  hb : X.base = base
  hN : X.N = N
  nd : N.Nodup
  kd : sc.kind = .function
  hsc : X.env.scope = sc
  calm : X.calm = true
  room : Room k X.A
  tk : Takes X W
  fn : own = true → ∀ x, X.fn x = true
  po : own = true → PassesOwn (model X.prog X.w) X.A X.env X.xe
def visB (sc : Scope) (x : Str) : Bool := match sc.names.lookup x with
  | some .local => true
  | some .cell => true
  | some .free => true
  | _ => false
def varB (N : List Str) (sc : Scope) (i : Nat) (x : Str) : Bool := (match N[i]? with
  | some y => y == x
  | none => false) && (visB sc x && (!(x == ("__debug__" : Str)) && !(x == ("__classdict__" : Str))))
def setB (N : List Str) (sc : Scope) (own : Bool) (i : Nat) (x : Str) : Bool := (match N[i]? with
  | some y => y == x
  | none => false) && (match sc.names.lookup x with
  | some .local => true
  | some .cell => own
  | _ => false)
def locB (N : List Str) (sc : Scope) (i : Nat) (x : Str) : Bool := (match N[i]? with
  | some y => y == x
  | none => false) && (match sc.names.lookup x with
  | some .local => true
  | _ => false)
def glB (sc : Scope) (x : Str) : Bool := (match sc.names.lookup x with
  | some .globalImplicit => true
  | _ => false) && (!(x == ("__debug__" : Str)) && !(x == ("__name__" : Str)))
section
variable {g : G} {P : Program} {w : World} {mg : Str → Option Value} {base : Heap} {k : Nat} {N : List Str} {sc : Scope} {own : Bool} {X : Cx} {W : WX} {i : Nat} {x : Str}
theorem at_of {N : List Str} {i : Nat} {x : Str} (h : (match N[i]? with
  | some y => y == x
  | none => false) = true) : N[i]? = some x := by
  split at h
  · rename_i y e
    rw [e, beq_iff_eq.mp h]
  · cases h
theorem Ct.K (c : Ct g P w mg base k N sc own X W) : g.K = X.K := c.hK.symm
theorem Ct.nd' (c : Ct g P w mg base k N sc own X W) : X.N.Nodup := by rw [c.hN]; exact c.nd
theorem Ct.kd' (c : Ct g P w mg base k N sc own X W) : X.env.scope.kind = .function := by rw [c.hsc]; exact c.kd
theorem Ct.at (c : Ct g P w mg base k N sc own X W) (h : (match N[i]? with
  | some y => y == x
  | none => false) = true) : X.N[i]? = some x := by rw [c.hN]; exact at_of h
theorem Ct.var {pos : Pos} (c : Ct g P w mg base k N sc own X W) (h : varB N sc i x = true) : SE g X W (.Name x pos) (mVar i) := by
  unfold varB at h
  simp only [Bool.and_eq_true, Bool.not_eq_true'] at h
  obtain ⟨h1, h2, h3, h4⟩ := h
  refine se_var (c.at h1) ?_ h3 h4
  unfold Vis
  rw [c.hsc]
  unfold visB at h2
  split at h2
  · rename_i e; exact .inl e
  · rename_i e; exact .inr (.inl e)
  · rename_i e; exact .inr (.inr e)
  · cases h2
theorem Ct.locs (c : Ct g P w mg base k N sc own X W) (h : setB N sc own i x = true) : X.N[i]? = some x ∧ L2.Loc X.env.scope x ∧ (X.fn x = true ∨ X.env.scope.names.lookup x = some .local) := by
  unfold setB at h
  rw [Bool.and_eq_true] at h
  refine ⟨c.at h.1, ?_⟩
  have h2 := h.2
  unfold L2.Loc
  rw [c.hsc]
  split at h2
  · rename_i e
    exact ⟨.inl e, .inr e⟩
  · rename_i e
    exact ⟨.inr e, .inl (c.fn h2 x)⟩
  · cases h2
theorem Ct.loc1 (c : Ct g P w mg base k N sc own X W) (h : locB N sc i x = true) : X.N[i]? = some x ∧ X.env.scope.names.lookup x = some .local := by
  unfold locB at h
  rw [Bool.and_eq_true] at h
  refine ⟨c.at h.1, ?_⟩
  have h2 := h.2
  rw [c.hsc]
  split at h2
  · assumption
  · cases h2
theorem Ct.gl (c : Ct g P w mg base k N sc own X W) (h : glB sc x = true) : Gl X x ∧ (x == ("__debug__" : Str)) = false ∧ x ≠ "__name__" := by
  unfold glB at h
  simp only [Bool.and_eq_true, Bool.not_eq_true'] at h
  obtain ⟨h1, h2, h3⟩ := h
  refine ⟨?_, h2, fun e => by rw [e] at h3; cases h3⟩
  show X.env.scope.names.lookup x = _
  rw [c.hsc]
  split at h1
  · assumption
  · cases h1
variable {frees globs : List Str}
/-- a builtin's call -/
theorem Ct.callB {id : String} {op : List D → Option S} {e : Expr} {es : List Expr} {p pos : Pos} {ms : List ME} (c : Ct g P w mg base k N sc own X W) (T : Tb g mg frees globs) (ho : CallOk g X (.builtin id) op) (hg : glB sc x = true) (hf : frees.contains x = true)
    (hv : bootBuiltins x = some (.builtin id)) (hst : (e :: es).all notStar = true) (ha : SA g X W (e :: es) (mArgs ms)) : SE g X W (.Call (.Name x p) (e :: es) [] pos) (mCallB op ms) :=
  se_callB ho (c.gl hg).1 (by rw [c.hmg]; exact T.fr x hf) hv (c.gl hg).2.2 (c.gl hg).2.1 hst ha
theorem Ct.callTy {id : String} {op : List D → Option S} {e : Expr} {es : List Expr} {p pos : Pos} {ms : List ME} (c : Ct g P w mg base k N sc own X W) (T : Tb g mg frees globs) (ho : CallOk g X (.type id) op) (hg : glB sc x = true) (hf : frees.contains x = true)
    (hv : bootBuiltins x = some (.type id)) (hst : (e :: es).all notStar = true) (ha : SA g X W (e :: es) (mArgs ms)) : SE g X W (.Call (.Name x p) (e :: es) [] pos) (mCallB op ms) :=
  se_callTy ho (c.gl hg).1 (by rw [c.hmg]; exact T.fr x hf) hv (c.gl hg).2.2 (c.gl hg).2.1 hst ha
/-- a builtin type's name -/
theorem Ct.tyName {id : String} {p : Pos} (c : Ct g P w mg base k N sc own X W) (T : Tb g mg frees globs) (hg : glB sc x = true) (hf : frees.contains x = true) (hv : bootBuiltins x = some (.type id)) : SE g X W (.Name x p) (mK (.ty id)) :=
  se_k (v := .ty id) (pe_bltn (c.gl hg).1 (by rw [c.hmg]; exact T.fr x hf) hv rfl (c.gl hg).2.2 (c.gl hg).2.1) fun F => by unfold Rep; rfl
theorem Ct.clsName {n : Nat} {p : Pos} (c : Ct g P w mg base k N sc own X W) (T : Tb g mg frees globs) (hg : glB sc x = true) (hf : globs.contains x = true) (hc : g.cad n = He.ga g.K x) : SE g X W (.Name x p) (mK (.cls n)) :=
  se_k (v := .ref (He.ga g.K x)) (pe_glob (c.gl hg).1 (by rw [c.hmg]; exact (T.gl x hf).1) rfl (c.gl hg).2.1) fun F => by unfold Rep; rw [hc]

/-! ### a def, its promise -/
structure FnC (g : G) (P : Program) (w : World) (mg : Str → Option Value) (base : Heap) (fi : FnI) (k : Nat) (f : Addr) (sh : List (Nat × List Str)) : Prop where
  ok : ∃ fd dvs, FnOk P w g.K mg base (CX P w) k f fd fi.ps (spOf g fi.ps.length fi.sem) ∧ (∀ q ∈ sh, Bnd g.K fd fi.ps q.1 q.2 dvs) ∧ ∀ F, Reps g F fi.dfl dvs
theorem Ct.fnK {fi : FnI} {f : Addr} {n : Nat} {ks : List Str} {j : Nat} {sh : List (Nat × List Str)} (c : Ct g P w mg base k N sc own X W) (F : FnC g P w mg base fi j f sh) (h : (sh.contains (n, ks)) = true) : FnK g X fi j f n ks := by
  obtain ⟨fd, dvs, h1, h2, h3⟩ := F.ok
  refine ⟨fd, dvs, ?_, ?_, h3⟩
  · rw [c.hP, c.hw, c.hK, c.hmg, c.hb]
    exact h1
  · rw [c.hK]
    exact h2 (n, ks) (List.contains_iff_mem.mp h)
/-- f(..) of an own def -/
theorem Ct.call {fi : FnI} {n j : Nat} {ks : List Str} {sh : List (Nat × List Str)} {p pos : Pos} {es : List Expr} {kws : List Keyword} {ms kms : List ME} (c : Ct g P w mg base k N sc own X W) (T : Tb g mg frees globs) (F : FnC g P w mg base fi j (He.ga g.K x) sh)
    (hj : Nat.ble j k = true) (hs : sh.contains (n, ks) = true) (hg : glB sc x = true) (hf : globs.contains x = true) (hks : kwNames kws = some ks) (ha : SAs g X W es ms) (hkw : SK g X W kws (mArgs kms)) :
    SE g X W (.Call (.Name x p) es kws pos) (mCallF fi n ks ms kms) :=
  se_call (c.fnK F hs) (c.room.mono (Nat.le_of_ble_eq_true hj)) c.tk (c.gl hg).1 (by rw [c.hmg]; exact (T.gl x hf).1) (by rw [c.hK]; exact (T.gl x hf).2) (c.gl hg).2.1 hks ha hkw
/-- C(..) -/
theorem Ct.make {mi : MkI} {n j : Nat} {ks : List Str} {sh : List (Nat × List Str)} {p pos : Pos} {es : List Expr} {kws : List Keyword} {ms kms : List ME} {f : Addr} (c : Ct g P w mg base k N sc own X W) (T : Tb g mg frees globs) (F : FnC g P w mg base mi.fi j f sh)
    (M : Mk g.K (g.cad mi.c) f) (hfl : g.fl mi.c = mi.fl) (hc : g.cad mi.c = He.ga g.K x)
    (hj : Nat.ble (j + 1) k = true) (hs : sh.contains (n + 1, ks) = true) (hg : glB sc x = true) (hf : globs.contains x = true) (hks : kwNames kws = some ks) (ha : SAs g X W es ms) (hkw : SK g X W kws (mArgs kms)) :
    SE g X W (.Call (.Name x p) es kws pos) (mMake mi n ks ms kms) :=
  se_make (c.fnK F hs) (c.room.mono (Nat.le_of_ble_eq_true hj)) c.tk (by rw [c.hK]; exact M) hfl (c.gl hg).1 (by rw [c.hmg, hc]; exact (T.gl x hf).1) (c.gl hg).2.1 hks ha hkw
/-- a name's store -/
theorem Ct.sgName {pos : Pos} {fl : Bool} (c : Ct g P w mg base k N sc own X W) (h : setB N sc own i x = true) : SG g X (.Name x pos) [i] (gNm i fl) :=
  sg_name c.nd' (c.locs h).1 (c.locs h).2.1 (c.locs h).2.2
theorem Ct.set {fl : Bool} {e : Expr} {m : ME} {pos pos' : Pos} (c : Ct g P w mg base k N sc own X W) (h : setB N sc own i x = true) (hc : notComp e = true) (he : SE g X W e m) : SS g X W (.Assign [.Name x pos'] e pos) (sAsg (gNm i fl) m) :=
  ss_set c.nd' (c.locs h).1 (c.locs h).2.1 (c.locs h).2.2 (swaps_no hc) he
theorem Ct.aug {e : Expr} {m : ME} {pos pos' : Pos} {op : Operator} {dop : D → D → Option S} (c : Ct g P w mg base k N sc own X W) (h : setB N sc own i x = true) (ho : OpOk g X (inplaceOp op) dop) (he : SE g X W e m) :
    SS g X W (.AugAssign (.Name x pos') op e pos) (sAug dop i m) :=
  ss_aug c.nd' (c.locs h).1 (c.locs h).2.1 (c.locs h).2.2 ho he
theorem Ct.par2 {j : Nat} {y : Str} {a b : Expr} {ms : List (Bool × ME)} {px py pt pos : Pos} {kt k2 pt2} (c : Ct g P w mg base k N sc own X W) (hx : locB N sc i x = true) (hy : locB N sc j y = true) (hij : Nat.beq i j = false)
    (hw : decide (swapOf sc [.Name x px, .Name y py] [a, b] = some (some [x, y])) = true) (ha : SA g X W [a, b] (mOwns ms)) :
    SS g X W (.Assign [.Tuple [.Name x px, .Name y py] kt pt] (.Tuple [a, b] k2 pt2) pos) (sPar2 i j ms) :=
  ss_par2 c.calm c.nd' (c.loc1 hx).1 (c.loc1 hy).1 (Nat.ne_of_beq_eq_false hij) (c.loc1 hx).2 (c.loc1 hy).2 ha (swapOf_ok c.kd' c.hsc (of_decide_eq_true hw))
theorem Ct.par3 {j l : Nat} {y z : Str} {a b d : Expr} {ms : List (Bool × ME)} {px py pz pt pos : Pos} {kt k2 pt2} (c : Ct g P w mg base k N sc own X W) (hx : locB N sc i x = true) (hy : locB N sc j y = true) (hz : locB N sc l z = true)
    (hij : Nat.beq i j = false) (hil : Nat.beq i l = false) (hjl : Nat.beq j l = false) (hw : decide (swapOf sc [.Name x px, .Name y py, .Name z pz] [a, b, d] = some (some [x, y, z])) = true) (ha : SA g X W [a, b, d] (mOwns ms)) :
    SS g X W (.Assign [.Tuple [.Name x px, .Name y py, .Name z pz] kt pt] (.Tuple [a, b, d] k2 pt2) pos) (sPar3 i j l ms) :=
  ss_par3 c.calm c.nd' (c.loc1 hx).1 (c.loc1 hy).1 (c.loc1 hz).1 (Nat.ne_of_beq_eq_false hij) (Nat.ne_of_beq_eq_false hil) (Nat.ne_of_beq_eq_false hjl) (c.loc1 hx).2 (c.loc1 hy).2 (c.loc1 hz).2 ha (swapOf_ok c.kd' c.hsc (of_decide_eq_true hw))
/-- (a, b, ..) = value, no parts of a tuple written out -/
def plainRhs : Expr → Bool
  | .Tuple _ _ _ => false
  | e => notComp e
theorem Ct.tupS {es : List Expr} {kt : Nat} {pt pos : Pos} {sl : List Nat} {ts : List MG} {e : Expr} {m : ME} (c : Ct g P w mg base k N sc own X W) (hs : SGs g X es sl ts) (hp : plainRhs e = true) (he : SE g X W e m) :
    SS g X W (.Assign [.Tuple es kt pt] e pos) (sAsg (gTu ts) m) := by
  refine ss_asgT (sg_tup c.K c.calm hs) ?_ ?_ rfl he
  · cases e <;> first | rfl | (cases hp)
  · cases e <;> first | rfl | (cases hp)
theorem Ct.subS {o i : Expr} {mo mi m : ME} {e : Expr} {pos pos' : Pos} (c : Ct g P w mg base k N sc own X W) (hn : notSlice i = true) (ho : SE g X W o mo) (hi : SE g X W i mi) (hp : plainRhs e = true) (he : SE g X W e m) : SS g X W (.Assign [.Subscript o i pos'] e pos) (sAsg (gSubM mo mi) m) := by
  refine ss_asgT (sg_sub hn ho hi) ?_ ?_ rfl he
  · cases e <;> first | rfl | (cases hp)
  · cases e <;> first | rfl | (cases hp)
/-- a comprehension's block -/
theorem Ct.blk (c : Ct g P w mg base k N sc own X W) {scope : Scope} (hk : scope.kind = .function) (s : Shared) (H : Hp) (C : Addr) (cl : List (Str × Addr)) (fp : List Addr) : Ct g P w mg base k N (relS scope sc) false (blkX X scope s H C cl fp) W0 := by
  refine ⟨c.hP, c.hw, c.hK, c.hmg, c.hb, c.hN, c.nd, hk, ?_, c.calm, c.room, ?_, (fun h => by cases h), (fun h => by cases h)⟩
  · rw [← c.hsc]
    rfl
  · rintro u s' ⟨_, _, _, _, _, _, _, _, _, _, _, _, _, _, _, _, w⟩
    exact w.elim
def kindF : Scope → Bool := fun s => match s.kind with
  | .function => true
  | _ => false
theorem kindF_ok {s : Scope} (h : kindF s = true) : s.kind = .function := by
  unfold kindF at h
  split at h
  · assumption
  · cases h
theorem Ct.comp0 {tg iter elt : Expr} {scope : Scope} {mi : MI} {t : MG} {el : ME} {pos : Pos} {ow : List (Str × Nat)} {sl : List Nat} (c : Ct g P w mg base k N sc own X W) (hi : SI g X W tg iter mi) (ok : blkC N sc scope ow = true) (hk : kindF scope = true)
    (hsl : sl.all (fun i => (ow.map (·.2)).contains i) = true) (hs : notSet iter = true)
    (hg : ∀ X W, Ct g P w mg base k N (relS scope sc) false X W → SG g X tg sl t) (he : ∀ X W, Ct g P w mg base k N (relS scope sc) false X W → SE g X W elt el) :
    SE g X W (.ListComp elt [⟨tg, iter, [], 0⟩] scope pos) (mComp mi t tTrue el (ow.map (·.2))) := by
  have hk' := kindF_ok hk
  exact se_comp c.calm c.nd' hi (by rw [c.hN, c.hsc]; exact blkOk_by ok) (fun s H C cl fp => hg _ _ (c.blk hk' s H C cl fp)) (fun i h => List.contains_iff_mem.mp (List.all_eq_true.mp hsl i h)) .nil (fun s H C cl fp => he _ _ (c.blk hk' s H C cl fp)) hs
theorem Ct.comp1 {tg iter elt e : Expr} {scope : Scope} {mi : MI} {t : MG} {cm : MT} {el : ME} {pos : Pos} {ow : List (Str × Nat)} {sl : List Nat} (c : Ct g P w mg base k N sc own X W) (hi : SI g X W tg iter mi) (ok : blkC N sc scope ow = true) (hk : kindF scope = true)
    (hsl : sl.all (fun i => (ow.map (·.2)).contains i) = true) (hs : notSet iter = true)
    (hg : ∀ X W, Ct g P w mg base k N (relS scope sc) false X W → SG g X tg sl t) (ht : ∀ X W, Ct g P w mg base k N (relS scope sc) false X W → STe g X W e cm) (he : ∀ X W, Ct g P w mg base k N (relS scope sc) false X W → SE g X W elt el) :
    SE g X W (.ListComp elt [⟨tg, iter, [e], 0⟩] scope pos) (mComp mi t cm el (ow.map (·.2))) := by
  have hk' := kindF_ok hk
  exact se_comp c.calm c.nd' hi (by rw [c.hN, c.hsc]; exact blkOk_by ok) (fun s H C cl fp => hg _ _ (c.blk hk' s H C cl fp)) (fun i h => List.contains_iff_mem.mp (List.all_eq_true.mp hsl i h)) (.one fun s H C cl fp => ht _ _ (c.blk hk' s H C cl fp)) (fun s H C cl fp => he _ _ (c.blk hk' s H C cl fp)) hs
def swB (sc scope : Scope) (t : Str) (py pos : Pos) : Bool := sc.names.lookup t == some .local && py.line == pos.line && !(scope.names.any fun (n, k) => n == t && (k == .local || k == .cell))
theorem sw_eq {env : PySem.Env} {sc scope : Scope} {elt : Expr} {gs : List Comprehension} {t : Str} {py pos : Pos} {l : Nat} (hk : sc.kind = .function) (hs : env.scope = sc) : swapsWith (.ListComp elt gs scope pos) (some (.Name t py)) l env = pure (swB sc scope t py pos) := by
  have hb : env.blockKind = .function := by unfold PySem.Env.blockKind; rw [hs, hk]; rfl
  show pure (env.blockKind == .function && env.kindOf t == some .local && py.line == pos.line && !(scope.names.any fun (n, k) => n == t && (k == .local || k == .cell))) = _
  rw [hb]
  unfold swB
  have hkf : env.kindOf t = sc.names.lookup t := by rw [← hs]; rfl
  rw [hkf]
  rfl
theorem Ct.comp0S {y : Str} {py spos : Pos} {fl : Bool} {tg iter elt : Expr} {scope : Scope} {mi : MI} {t : MG} {el : ME} {pos : Pos} {ow : List (Str × Nat)} {sl : List Nat} (c : Ct g P w mg base k N sc own X W) (hl : locB N sc i y = true) (hi : SI g X W tg iter mi) (ok : blkC N sc scope ow = true) (hk : kindF scope = true)
    (hsl : sl.all (fun i => (ow.map (·.2)).contains i) = true) (hs : notSet iter = true) (hsw : swB sc scope y py pos = true)
    (hg : ∀ X W, Ct g P w mg base k N (relS scope sc) false X W → SG g X tg sl t) (he : ∀ X W, Ct g P w mg base k N (relS scope sc) false X W → SE g X W elt el) :
    SS g X W (.Assign [.Name y py] (.ListComp elt [⟨tg, iter, [], 0⟩] scope pos) spos) (sAsg (gNm i fl) (mComp mi t tTrue el (ow.map (·.2)))) := by
  have hk' := kindF_ok hk
  exact ss_setLc c.calm c.nd' (c.loc1 hl).1 (c.loc1 hl).2 ((sw_eq c.kd c.hsc).trans (congrArg pure hsw)) hi (by rw [c.hN, c.hsc]; exact blkOk_by ok) (fun s H C cl fp => hg _ _ (c.blk hk' s H C cl fp)) (fun i h => List.contains_iff_mem.mp (List.all_eq_true.mp hsl i h)) .nil (fun s H C cl fp => he _ _ (c.blk hk' s H C cl fp)) hs
theorem Ct.comp1S {y : Str} {py spos : Pos} {fl : Bool} {tg iter elt e : Expr} {scope : Scope} {mi : MI} {t : MG} {cm : MT} {el : ME} {pos : Pos} {ow : List (Str × Nat)} {sl : List Nat} (c : Ct g P w mg base k N sc own X W) (hl : locB N sc i y = true) (hi : SI g X W tg iter mi) (ok : blkC N sc scope ow = true) (hk : kindF scope = true)
    (hsl : sl.all (fun i => (ow.map (·.2)).contains i) = true) (hs : notSet iter = true) (hsw : swB sc scope y py pos = true)
    (hg : ∀ X W, Ct g P w mg base k N (relS scope sc) false X W → SG g X tg sl t) (ht : ∀ X W, Ct g P w mg base k N (relS scope sc) false X W → STe g X W e cm) (he : ∀ X W, Ct g P w mg base k N (relS scope sc) false X W → SE g X W elt el) :
    SS g X W (.Assign [.Name y py] (.ListComp elt [⟨tg, iter, [e], 0⟩] scope pos) spos) (sAsg (gNm i fl) (mComp mi t cm el (ow.map (·.2)))) := by
  have hk' := kindF_ok hk
  exact ss_setLc c.calm c.nd' (c.loc1 hl).1 (c.loc1 hl).2 ((sw_eq c.kd c.hsc).trans (congrArg pure hsw)) hi (by rw [c.hN, c.hsc]; exact blkOk_by ok) (fun s H C cl fp => hg _ _ (c.blk hk' s H C cl fp)) (fun i h => List.contains_iff_mem.mp (List.all_eq_true.mp hsl i h)) (.one fun s H C cl fp => ht _ _ (c.blk hk' s H C cl fp)) (fun s H C cl fp => he _ _ (c.blk hk' s H C cl fp)) hs
end

section
variable {g : G} {P : Program} {w : World} {mg : Str → Option Value} {base : Heap} {k : Nat} {N : List Str} {sc : Scope} {own : Bool} {X : Cx} {W : WX} {i : Nat} {x : Str}
/-- a comprehension's value to a name, not by the short way -/
theorem Ct.setC {fl : Bool} {elt : Expr} {gs : List Comprehension} {scope : Scope} {m : ME} {pos pos' cpos : Pos} (c : Ct g P w mg base k N sc own X W) (h : setB N sc own i x = true) (hsw : swB sc scope x pos' cpos = false) (he : SE g X W (.ListComp elt gs scope cpos) m) :
    SS g X W (.Assign [.Name x pos'] (.ListComp elt gs scope cpos) pos) (sAsg (gNm i fl) m) :=
  ss_set c.nd' (c.locs h).1 (c.locs h).2.1 (c.locs h).2.2 ((sw_eq c.kd c.hsc).trans (congrArg pure hsw)) he
theorem Ct.hu64 (c : Ct g P w mg base k N sc own X W) : X.A.units + 64 < cLine := by have := c.room.un; omega
theorem Ct.hu65 (c : Ct g P w mg base k N sc own X W) : X.A.units + 65 < cLine := by have := c.room.un; omega
/-- a tuple written out to a tuple, one by one -/
theorem Ct.tupT {es vs : List Expr} {kt k2 : Nat} {pt p2 pos : Pos} {sl : List Nat} {ts : List MG} {m : ME} (c : Ct g P w mg base k N sc own X W) (hs : SGs g X es sl ts) (hw : decide (swapOf sc es vs = some none) = true) (he : SE g X W (.Tuple vs k2 p2) m) :
    SS g X W (.Assign [.Tuple es kt pt] (.Tuple vs k2 p2) pos) (sAsg (gTu ts) m) :=
  ss_asgT (sg_tup c.K c.calm hs) rfl (swapOf_ok c.kd' c.hsc (of_decide_eq_true hw)) rfl he
end

/-! ### a def as a whole -/
def finR (n : Nat) (μ : Sto) : S → Option R
  | .cell k => if k < n then some (.ok (.cell k), μ.take n) else (match μ[k]? with
    | some (.lst ds) => some (.ok (.fr ds), μ.take n)
    | some (.frz d) => some (.ok (.val d), μ.take n)
    | _ => none)
  | s => some (.ok s, μ.take n)
def finF (n : Nat) : Option (Fl × En × Sto) → Option R
  | some (.nx, _, μ') => some (.ok (.val .non), μ'.take n)
  | some (.rt s, _, μ') => finR n μ' s
  | some (.ex x, _, μ') => some (.error x, μ'.take n)
  | _ => none
def fnSem (nN : Nat) (body : MS) : List S → Sto → Option R := fun ss μ => finF μ.length (body (ss.map some ++ List.replicate (nN - ss.length) none) μ)
section
variable {g : G} {P : Program} {w : World} {mg : Str → Option Value} {base : Heap} {k : Nat} {N ps : List Str} {x qual : Str} {params : Arguments} {body : List Stmt} {scope : Scope} {dvs : List V} {kws : List (Str × V)} {f : Addr} {fd : FuncData} {code : MS}
theorem rss_at {F : Hp} {as : List Addr} {ss : List S} {vs : List V} {i : Nat} {s : S} (r : RSs g F as ss vs) (h : ss[i]? = some s) : ∃ v, vs[i]? = some v ∧ RS g F as s v := paired_get r h
theorem er_start {F : Hp} {as : List Addr} {ss : List S} {vs : List V} (r : RSs g F as ss vs) : ER g F as (ss.map some ++ List.replicate (N.length - ss.length) none) (L2.start N vs) := by
  have hl := Paired.length r
  refine ⟨?_, fun i s h => ?_⟩
  · unfold L2.start
    rw [List.length_append, List.length_append, List.length_map, List.length_map, List.length_replicate, List.length_replicate, hl]
    exact Nat.le_refl _
  · by_cases hi : i < ss.length
    · rw [List.getElem?_append_left (by rw [List.length_map]; exact hi), List.getElem?_map] at h
      cases e : ss[i]? with
      | none => rw [e] at h; cases h
      | some s' =>
        rw [e] at h
        cases h
        obtain ⟨v, e1, e2⟩ := rss_at r e
        refine ⟨v, ?_, e2⟩
        unfold L2.start
        rw [List.getElem?_append_left (by rw [List.length_map, ← hl]; exact hi), List.getElem?_map, e1]
        rfl
    · rw [List.getElem?_append_right (by rw [List.length_map]; omega)] at h
      have := List.mem_of_getElem? h
      rw [List.mem_replicate] at this
      exact absurd this.2 (by simp)
theorem ext_back {F F' : Hp} {as as' : List Addr} (x : Ext F as F' as') : Ext F as F' as := ⟨x.1, [], by rw [List.append_nil]⟩
theorem fn_ok (F : FunD g.K x qual params body scope dvs kws f fd) (S : FnScope N ps scope) (hb : ∀ X W, Ct g P w mg base k N scope true X W → SB g X W body code) :
    FnOk P w g.K mg base (CX P w) (k + 1) f fd ps (spOf g ps.length (fnSem N.length code)) := by
  refine F.ok S (fun vs H Q E h => h.1) fun cdv A outer s H vs Q E hr hsp => ?_
  refine ⟨_, pss_wp, ?_⟩
  have c : Ct g P w mg base k N scope true (cxOf (CX P w) P w g.K mg base N qual scope f cdv A outer s H E) (fun cls d _ H => E cls d H) :=
    ⟨rfl, rfl, rfl, rfl, rfl, rfl, S.nd, S.kind, rfl, rfl, hr, takes_of rfl rfl rfl rfl, fun _ _ => rfl, fun _ => passes_of rfl⟩
  obtain ⟨hl, F0, as, ss, μ, r, μ', sr, rs, hs, post⟩ := hsp
  have er := er_start (N := N) rs
  unfold fnSem at hs
  cases e : code (ss.map some ++ List.replicate (N.length - ss.length) none) μ with
  | none => rw [e] at hs; cases hs
  | some z =>
    obtain ⟨fl, ρ', μ2⟩ := z
    rw [e] at hs
    refine (hb _ _ c).run F0 as _ μ _ H _ fl ρ' μ2 e sr er ?_
    cases fl with
    | nx =>
      cases hs
      exact fun F' as' σ' H' x' sr' er' => post F' as .non H' (ext_back x') (sr.back x' sr') ra_non
    | bk => cases hs
    | ct => cases hs
    | ex x =>
      cases hs
      exact fun F' as' σ' cls d H' x' sr' er' rx => post F' as cls d H' (ext_back x') (sr.back x' sr') rx
    | rt s =>
      intro F' as' v H' x' sr' ra'
      have hs : finR μ.length μ2 s = some (r, μ') := hs
      have hb' := sr.back x' sr'
      cases s with
      | val d =>
        cases hs
        exact post F' as v H' (ext_back x') hb' ra'
      | fr ds =>
        cases hs
        obtain ⟨p, vs', h1, h2, h3, h4, h5⟩ := (show ∃ p vs, v = .ref p ∧ H' p = some (.lst vs) ∧ F' p = none ∧ p ∉ as' ∧ Reps g F' ds vs from ra')
        refine post F' as v H' (ext_back x') hb' ⟨p, vs', h1, h2, h3, fun hm => h4 ?_, h5⟩
        obtain ⟨_, l, rfl⟩ := x'
        exact List.mem_append_left _ hm
      | cell j =>
        obtain ⟨a, ha, rfl⟩ := (show ∃ a, as'[j]? = some a ∧ v = .ref a from ra')
        unfold finR at hs
        dsimp only at hs
        by_cases hj : j < μ.length
        · rw [if_pos hj] at hs
          cases hs
          refine post F' as _ H' (ext_back x') hb' ⟨a, ?_, rfl⟩
          obtain ⟨_, l, rfl⟩ := x'
          rw [List.getElem?_append_left (by rw [sr.len]; exact hj)] at ha
          exact ha
        · rw [if_neg hj] at hs
          split at hs
          · rename_i ds hds
            cases hs
            obtain ⟨fa, vs', hv, rv⟩ := sr'.cells _ _ _ ha hds
            refine post F' as _ H' (ext_back x') hb' (ra_lst hv fa (fun hm => ?_) rv)
            obtain ⟨i, hi⟩ := List.getElem?_of_mem hm
            have hil : i < as.length := (List.getElem?_eq_some_iff.mp hi).1
            have hi' : as'[i]? = some a := by
              obtain ⟨_, l, rfl⟩ := x'
              rw [List.getElem?_append_left hil]
              exact hi
            have := nd_at sr'.nd hi' ha
            rw [sr.len] at hil
            omega
          · rename_i d hd
            cases hs
            exact post F' as _ H' (ext_back x') hb' (sr'.cells _ _ _ ha hd)
          · cases hs

/-! ### binding -/
theorem bnd0 {n : Nat} {ks : List Str} (F : FunD g.K x qual params body scope [] [] f fd)
    (h : ∀ (kV doc pm : Value) (an : Option Addr) (cdv ct : Value) (us ws : List Value), us.length = n → ws.length = ks.length → ∃ b, bindG ks us ws [] ps.length ps 0 = some b ∧ bindArgs (PySem.W.fnOf x qual params body scope .none kV doc pm an cdv ct) ⟨us, ks.zip ws⟩ = pure (ps.zip b)) : Bnd g.K fd ps n ks [] := by
  obtain ⟨oc, od, dV, kV, doc, pm, an, cdv, ct, osl, rfl, lk, hcd, hD, hK⟩ := F.ex
  rcases hD with ⟨_, rfl⟩ | ⟨e, _⟩
  · refine ⟨[], .nil, fun s us ws _ h1 h2 => ?_⟩
    obtain ⟨b, e1, e2⟩ := h kV doc pm an cdv ct us ws h1 h2
    exact ⟨b, e1, .of_eq e2⟩
  · exact absurd rfl e
theorem bnd1 {n : Nat} {ks : List Str} (F : FunD g.K x qual params body scope dvs [] f fd) (hd : dvs ≠ [])
    (h : ∀ (T : Addr) (kV doc pm : Value) (an : Option Addr) (cdv ct : Value) (us its ws : List Value), us.length = n → its.length = dvs.length → ws.length = ks.length → ∃ b, bindG ks us ws its ps.length ps 0 = some b ∧
      ∃ k, bindArgs (PySem.W.fnOf x qual params body scope (.ref T) kV doc pm an cdv ct) ⟨us, ks.zip ws⟩ = seqItems? (.ref T) >>= k ∧ k (some its.toArray) = pure (ps.zip b)) : Bnd g.K fd ps n ks dvs := by
  obtain ⟨oc, od, dV, kV, doc, pm, an, cdv, ct, osl, rfl, lk, hcd, hD, hK⟩ := F.ex
  rcases hD with ⟨e, _⟩ | ⟨_, T, o, its, m, rfl, lT, oT, rT⟩
  · exact absurd e hd
  · refine ⟨its, rT, fun s us ws X h1 h2 => ?_⟩
    obtain ⟨b, e1, k, e2, e3⟩ := h T kV doc pm an cdv ct us its ws h1 rT.length.symm h2
    refine ⟨b, e1, BindsTo.of_looks fun M => ?_⟩
    rw [e2]
    exact looks_items X lT oT (PySem.W.Looks.of_pure e3)
def BndAll (K : PySem.W.Frag) (fd : FuncData) (ps : List Str) (dvs : List V) : List (Nat × List Str) → Prop
  | [] => True
  | q :: r => Bnd K fd ps q.1 q.2 dvs ∧ BndAll K fd ps dvs r
theorem BndAll.get {K : PySem.W.Frag} {fd : FuncData} {ps : List Str} {dvs : List V} : ∀ {sh : List (Nat × List Str)}, BndAll K fd ps dvs sh → ∀ q ∈ sh, Bnd K fd ps q.1 q.2 dvs
  | [], _, q, hq => by cases hq
  | _ :: _, h, q, hq => by
    rcases List.mem_cons.mp hq with e | hq
    · rw [e]; exact h.1
    · exact h.2.get q hq
/-- a default as the head has it -/
def dvOf : D → He.Dv
  | .bl b => .bl b
  | .int i => .int i
  | .str s => .str s
  | .ty T => .ty T
  | _ => .non
def dvOk : D → Bool
  | .non => true
  | .bl _ => true
  | .int _ => true
  | .str _ => true
  | .ty _ => true
  | _ => false
theorem dv_rep {F : Hp} {d : D} (h : dvOk d = true) : Rep g F d ((dvOf d).v g.K) := by
  cases d <;> first | (unfold Rep; rfl) | cases h
theorem dvs_rep {F : Hp} : ∀ {ds : List D}, ds.all dvOk = true → Reps g F ds ((ds.map dvOf).map (He.Dv.v g.K))
  | [], _ => Reps.nil
  | d :: ds, h => by
    rw [List.all_cons, Bool.and_eq_true] at h
    exact Reps.cons (dv_rep h.1) (dvs_rep h.2)
theorem FnC.of {dfl : List D} {sh : List (Nat × List Str)} (h : ∃ fd, FunD g.K x qual params body scope ((dfl.map dvOf).map (He.Dv.v g.K)) [] f fd) (hd : dfl.all dvOk = true) (S : FnScope N ps scope) (hb : ∀ X W, Ct g P w mg base k N scope true X W → SB g X W body code)
    (hB : ∀ fd, FunD g.K x qual params body scope ((dfl.map dvOf).map (He.Dv.v g.K)) [] f fd → BndAll g.K fd ps ((dfl.map dvOf).map (He.Dv.v g.K)) sh) : FnC g P w mg base ⟨ps, dfl, fnSem N.length code⟩ (k + 1) f sh := by
  obtain ⟨fd, F⟩ := h
  exact ⟨fd, _, fn_ok F S hb, (hB fd F).get, fun _ => dvs_rep hd⟩
end
end Sz

set_option Elab.async false
set_option linter.all false
set_option maxRecDepth 100000
set_option maxHeartbeats 4000000
/-! Sz K: methods, the head's facts, a law's end. -/
namespace Sz
open PySem PySem.Spec L2
section
variable {g : G} {P : Program} {w : World} {mg : Str → Option Value} {base : Heap} {k : Nat} {N : List Str} {sc : Scope} {own : Bool} {X : Cx} {W : WX} {i : Nat} {x : Str}
structure MtC (g : G) (P : Program) (w : World) (mg : Str → Option Value) (base : Heap) (mt : Nat → Option FnI) (m : Str) (k : Nat) (sh : List (Nat × List Str)) : Prop where
  ok : ∀ c fi, mt c = some fi → ∃ f, FnC g P w mg base fi k f sh ∧ Cls g.K (g.cad c) ∧ Meth g.K (g.cad c) m f ∧ (g.fl c).contains m = false
theorem Ct.meth {mt : Nat → Option FnI} {a : Expr} {ma : ME} {m : Str} {n j : Nat} {ks : List Str} {sh : List (Nat × List Str)} {apos pos : Pos} {es : List Expr} {kws : List Keyword} {ms kms : List ME} (c : Ct g P w mg base k N sc own X W) (M : MtC g P w mg base mt m j sh)
    (hj : Nat.ble j k = true) (hs : sh.contains (n + 1, ks) = true) (hb : recvOk a = true) (hf : methForm apos pos es kws = true) (hks : kwNames kws = some ks) (hself : SE g X W a ma) (ha : SAs g X W es ms) (hkw : SK g X W kws (mArgs kms)) :
    SE g X W (.Call (.Attribute a m apos) es kws pos) (mMeth m mt n ks ma ms kms) := by
  refine se_meth (k := j) ⟨fun cc fi h => ?_⟩ (c.room.mono (Nat.le_of_ble_eq_true hj)) c.tk hb hf hks hself ha hkw
  obtain ⟨f, h1, h2, h3, h4⟩ := M.ok cc fi h
  refine ⟨f, c.fnK h1 hs, ?_, ?_, fun hm => ?_⟩
  · rw [c.hK]; exact h2
  · rw [c.hK]; exact h3
  · rw [List.contains_iff_mem.mpr hm] at h4; cases h4
/-- o.f -/
theorem Ct.attr {a : Expr} {ma : ME} {f : Str} {fls : List (List Str)} {pos : Pos} (c : Ct g P w mg base k N sc own X W) (ff : FldF g fls) (hno : ∀ c, c < fls.length → NoAttr g.K (g.cad c) f) (ha : SE g X W a ma) (hs : notCall a = true) : SE g X W (.Attribute a f pos) (mAttr fls f ma) :=
  se_attr c.K ff hno ha hs
theorem Ct.fld {o e : Expr} {mo m : ME} {f : Str} {fls : List (List Str)} {pos pos' : Pos} (c : Ct g P w mg base k N sc own X W) (ff : FldF g fls) (hno : ∀ c, c < fls.length → NoAttr g.K (g.cad c) f) (ho : SE g X W o mo) (he : SE g X W e m) : SS g X W (.Assign [.Attribute o f pos'] e pos) (sFldM fls.length f mo m) :=
  ss_fld c.K (fun n h => ⟨ff.cls n h, hno n h⟩) ho he
theorem kitF0 {sub : Nat → Nat → Bool} : KitF g 0 0 sub := ⟨fun c h => absurd h (Nat.not_lt_zero c), fun c h => absurd h (Nat.not_lt_zero c), fun h => absurd h (Nat.lt_irrefl 0), fun h => absurd h (Nat.lt_irrefl 0), fun c h => absurd h (Nat.not_lt_zero c), fun c _ h => absurd h (Nat.not_lt_zero c), fun c _ h => absurd h (Nat.not_lt_zero c), fun c _ h => absurd h (Nat.not_lt_zero c)⟩
theorem FnC.sub {fi : FnI} {f : Addr} {sh sh' : List (Nat × List Str)} (F : FnC g P w mg base fi k f sh) (j : Nat) (hj : Nat.ble k j = true) (h : sh'.all (fun q => sh.contains q) = true) : FnC g P w mg base fi j f sh' := by
  obtain ⟨fd, dvs, h1, h2, h3⟩ := F.ok
  exact ⟨fd, dvs, h1.mono (Nat.le_of_ble_eq_true hj), fun q hq => h2 q (List.contains_iff_mem.mp (List.all_eq_true.mp h q hq)), h3⟩
end

/-! ### the head -/
/-- the text's things by their names: classes, their fields -/
def gOf (cls : List Str) (fls : List (List Str)) (K : PySem.W.Frag) : G := ⟨K, fun c => He.ga K (cls.getD c ""), fun c => fls.getD c [], fun _ => 0⟩
def faOf (frees globs : List Str) (rest : List He.Fa) : List He.Fa := frees.map .free ++ (globs.map .glo ++ (globs.map .keep ++ rest))
section
variable {K : PySem.W.Frag} {h : Heap} {mg : Str → Option Value} {frees globs : List Str} {rest : List He.Fa} {fn : List He.DefD}
theorem says_all (S : He.SaysD (faOf frees globs rest) fn K) {f : He.Fa} (hf : f ∈ faOf frees globs rest) : f.ok K = true := by
  have c1 := (He.ba (show ((faOf frees globs rest).all (fun f => f.ok K) && fn.all fun d => d.ok K) = true from congrArg (fun z : He.AlD => z.1) S)).1
  exact List.all_eq_true.mp c1 f hf
theorem tb_of {g : G} (hg : g.K = K) (X : K.In h) (G : h.Ns mainGlobals mg) (S : He.SaysD (faOf frees globs rest) fn K) : Tb g mg frees globs := by
  subst hg
  refine ⟨fun x hx => He.free_ok X G (says_all S ?_), fun x hx => ⟨He.glo_ok X G (says_all S ?_), He.keep_ok (says_all S ?_)⟩⟩
  · exact List.mem_append_left _ (List.mem_map.mpr ⟨x, List.contains_iff_mem.mp hx, rfl⟩)
  · exact List.mem_append_right _ (List.mem_append_left _ (List.mem_map.mpr ⟨x, List.contains_iff_mem.mp hx, rfl⟩))
  · exact List.mem_append_right _ (List.mem_append_right _ (List.mem_append_left _ (List.mem_map.mpr ⟨x, List.contains_iff_mem.mp hx, rfl⟩)))
theorem rest_ok (S : He.SaysD (faOf frees globs rest) fn K) (i : Nat) {f : He.Fa} (hi : rest[i]? = some f) : f.ok K = true :=
  says_all S (List.mem_append_right _ (List.mem_append_right _ (List.mem_append_right _ (List.mem_of_getElem? hi))))
end

/-! ### a law's end -/
theorem sr_empty {g : G} {H : Hp} : SR g H [] [] H := ⟨Same.refl _, rfl, fun i a c h => by simp at h, .nil, fun a h => by simp at h⟩
theorem sp_law {g : G} {sem : List S → Sto → Option R} {H : Hp} {a : Addr} {ns : List Int} (hS : SqL g.K H a (ns.map V.int)) (h : sem [.val (.scr ns)] [] = some (.ok (.val (.bl true)), [])) : spOf g 1 sem [.ref a] H (fun v _ => v = .bl true) fun _ _ _ => False := by
  refine ⟨rfl, H, [], [.val (.scr ns)], [], _, _, sr_empty, .cons ?_ .nil, h, fun F' as' v H' _ _ r => ?_⟩
  · show Rep g H (.scr ns) (.ref a)
    unfold Rep
    exact ⟨a, rfl, hS⟩
  · have r : Rep g F' (.bl true) v := r
    unfold Rep at r
    exact r
/-- a def that lets nothing out -/
theorem fnok_cx0 {P : Program} {w : World} {K : PySem.W.Frag} {mg : Str → Option Value} {base : Heap} {k : Nat} {f : Addr} {fd : FuncData} {ps : List Str} {sp : Sp} (F : FnOk P w K mg base (CX P w) k f fd ps sp) :
    FnOk P w K mg base CX0 k f fd ps (fun vs H Q _ => sp vs H Q fun _ _ _ => False) := by
  refine ⟨fun vs H Q E h => F.len _ _ _ _ h, fun A outer s H args us vs Q E hr he hb hv hs => codeAny_mono (F.run A outer s H args us vs Q (fun _ _ _ => False) hr he hb hv hs) fun r s' h => ?_⟩
  cases r with
  | error e =>
    obtain ⟨a, B, H', cls, d, _, _, _, _, _, _, _, h⟩ := h
    exact h.elim
  | ok fl =>
    cases fl with
    | ret u => exact h
    | next => exact h
    | brk => exact h
    | cont => exact h
end Sz

set_option Elab.async false
set_option linter.all false
set_option maxRecDepth 100000
set_option maxHeartbeats 4000000
/-! Sz L: a list's methods, the kit of classes. -/
namespace Sz
open PySem PySem.Spec L2

/-! ### methods of a list that is a cell -/
abbrev mcan (X : Cx) (id : String) : V → List V → Hp → VK → Prop := fun x xs H Q => ∀ (pins : List (Addr × Obj)) (s : Shared) (σ : L2.St) (v : Value) (us : List Value), Inv X pins σ H s → RelV x v → Vals xs us → wpAny (model X.prog X.w) X.A (call (.builtin id) (v :: us)) (EP X pins σ Q) X.xe s
theorem mt_can {X : Cx} {id : String} : MtR X id (mcan X id) := fun pins s σ H x xs v us Q I r rs h => h pins s σ v us I r rs
theorem mc {X : Cx} {id : String} {r : V → List V → Hp → VK → Prop} (h : MtR X id r) {x : V} {xs : List V} {H : Hp} {Q : VK} (q : r x xs H Q) : mcan X id x xs H Q := fun pins s σ v us I rx rs => h pins s σ H x xs v us Q I rx rs q
def LmOk (g : G) (X : Cx) (id : String) (op : List D → List D → Option (D × List D)) : Prop :=
  ∀ (xs ds ys : List D) (r : D) (F : Hp) (a : Addr) (vs us : List V) (H : Hp) (Q : VK), op xs ds = some (r, ys) → Same F H → Reps g F xs vs → Reps g F ds us → H a = some (.lst vs) → (∀ w zs, Rep g F r w → Reps g F ys zs → Q w (upd H a (.lst zs))) → mcan X id (.ref a) us H Q
def finLm (op : List D → List D → Option (D × List D)) (k : Nat) (ss : List S) (μ : Sto) : Option R := match toDs μ ss with
  | some (ds, μ3) => (match μ3[k]? with
    | some (.lst xs) => (match op xs ds with
      | some (r, ys) => some (.ok (.val r), μ3.set k (.lst ys))
      | none => none)
    | _ => none)
  | none => none
def isLst : Option C → Bool
  | some (.lst _) => true
  | _ => false
def mLm (op : List D → List D → Option (D × List D)) (o : ME) (ms : List ME) : ME := fun ρ μ => andThen (o ρ μ) fun s μ1 => match rt s with
  | .cell k => if isLst μ1[k]? then andThen (mArgs ms ρ μ1) (finLm op k) else none
  | _ => none
section
variable {g : G} {X : Cx} {W : WX}
theorem finLm_run {id : String} {op : List D → List D → Option (D × List D)} (ho : LmOk g X id op) {F : Hp} {as : List Addr} {μ μ' : Sto} {H : Hp} {σ : L2.St} {Q : VK} {r : Except Ex S} {k : Nat} {a : Addr} {ss : List S} {us : List V} (ha : as[k]? = some a)
    (h : finLm op k ss μ = some (r, μ')) (sr : SR g F as μ H) (rs : RSs g F as ss us) (post : PostE g W F as σ Q r μ') : mcan X id (.ref a) us H Q := by
  unfold finLm at h
  split at h
  · rename_i ds μ3 hd
    obtain ⟨F3, x3, sr3, r3⟩ := toDs_rs sr rs hd
    split at h
    · rename_i xs hx
      split at h
      · rename_i rr ys hop
        cases h
        obtain ⟨fa, vs, hv, rv⟩ := sr3.cells _ _ _ ha hx
        refine ho xs ds ys rr F3 a vs us H Q hop sr3.sub rv r3 hv fun w zs rw' rz => ?_
        exact post F3 as w _ x3 (sr3.write ha fa ⟨fa, zs, upd_same, rz⟩) rw'
      · cases h
    · cases h
  · cases h
theorem se_lm {id : String} {m : Str} {op : List D → List D → Option (D × List D)} {o e : Expr} {es : List Expr} {mo : ME} {ms : List ME} {apos pos : Pos} (slot : Slot "list" m id) (hty : typeOf (.builtin id) = pure (.type "method_descriptor")) (ho : LmOk g X id op)
    (hK : g.K = X.K) (hb : recvOk o = true) (hf : methForm apos pos (e :: es) [] = true) (hst : (e :: es).all notStar = true) (h1 : SE g X W o mo) (h2 : SA g X W (e :: es) (mArgs ms)) : SE g X W (.Call (.Attribute o m apos) (e :: es) [] pos) (mLm op mo ms) := by
  unfold methForm at hf
  rw [Bool.and_eq_true] at hf
  have hst' := hst
  rw [List.all_cons, Bool.and_eq_true] at hst'
  refine ⟨fun F as ρ μ σ H Q r μ' h sr er post => wE (pe_bm PySem.F.plainAttrs_list slot hty mt_can pe_wp pa_wp (recv_base hb) (by rw [all_plain hst]; exact hf.2) hf.1 (starEach_cons hst'.1) (starEach_plain hst'.2)) ?_⟩
  refine h1.then_ (show andThen _ _ = some (r, μ') from h) sr er (fun x e => by subst e; exact post) fun s μ1 F1 as1 v H1 h3 x1 sr1 er1 ra1 => ?_
  obtain ⟨F1', x1', sr1', rs1⟩ := root_ok sr1 ra1
  split at h3
  · rename_i k hk
    rw [hk] at rs1
    obtain ⟨a, ha, rfl⟩ := (show ∃ a, as1[k]? = some a ∧ v = .ref a from rs1)
    split at h3
    · rename_i hl
      refine ⟨.inl ⟨rfl, ?_⟩, ?_⟩
      · cases hc : μ1[k]? with
        | none => rw [hc] at hl; cases hl
        | some c =>
          rw [hc] at hl
          cases c with
          | lst xs =>
            obtain ⟨fa, vs, hv, rv⟩ := sr1'.cells _ _ _ ha hc
            exact ⟨vs, SqL.of hv⟩
          | frz _ => cases hl
          | ins _ _ => cases hl
      · refine h2.then_ h3 sr1' (er1.mono x1') (fun x e => by subst e; exact PErr.ext (x1.trans x1') post) fun ss μ2 F2 as2 us H2 h4 x2 sr2 er2 rs2 => ?_
        have ha2 : as2[k]? = some a := by
          obtain ⟨_, l, rfl⟩ := x2
          rw [List.getElem?_append_left (List.getElem?_eq_some_iff.mp ha).1]
          exact ha
        exact finLm_run (W := W) ho ha2 h4 sr2 rs2 (PostE.ext ((x1.trans x1').trans x2) post)
    · cases h3
  · cases h3
theorem se_lm0 {id : String} {m : Str} {op : List D → List D → Option (D × List D)} {o : Expr} {mo : ME} {apos pos : Pos} (slot : Slot "list" m id) (hty : typeOf (.builtin id) = pure (.type "method_descriptor")) (ho : LmOk g X id op)
    (hK : g.K = X.K) (hb : recvOk o = true) (hf : methForm apos pos [] [] = true) (h1 : SE g X W o mo) : SE g X W (.Call (.Attribute o m apos) [] [] pos) (mLm op mo []) := by
  unfold methForm at hf
  rw [Bool.and_eq_true] at hf
  refine ⟨fun F as ρ μ σ H Q r μ' h sr er post => wE (pe_bm0 PySem.F.plainAttrs_list slot hty mt_can pe_wp (recv_base hb) hf.1) ?_⟩
  refine h1.then_ (show andThen _ _ = some (r, μ') from h) sr er (fun x e => by subst e; exact post) fun s μ1 F1 as1 v H1 h3 x1 sr1 er1 ra1 => ?_
  obtain ⟨F1', x1', sr1', rs1⟩ := root_ok sr1 ra1
  split at h3
  · rename_i k hk
    rw [hk] at rs1
    obtain ⟨a, ha, rfl⟩ := (show ∃ a, as1[k]? = some a ∧ v = .ref a from rs1)
    split at h3
    · rename_i hl
      refine ⟨.inl ⟨rfl, ?_⟩, ?_⟩
      · cases hc : μ1[k]? with
        | none => rw [hc] at hl; cases hl
        | some c =>
          rw [hc] at hl
          cases c with
          | lst xs =>
            obtain ⟨fa, vs, hv, rv⟩ := sr1'.cells _ _ _ ha hc
            exact ⟨vs, SqL.of hv⟩
          | frz _ => cases hl
          | ins _ _ => cases hl
      · exact finLm_run (W := W) ho ha (show finLm op k [] μ1 = some (r, μ') from h3) sr1' .nil (PostE.ext (x1.trans x1') post)
    · cases h3
  · cases h3
def lApp : List D → List D → Option (D × List D)
  | xs, [d] => if xs.length < sizeLine then some (.non, xs ++ [d]) else none
  | _, _ => none
def lIns : List D → List D → Option (D × List D)
  | xs, [.int i, d] => if xs.length < sizeLine ∧ 0 ≤ i ∧ i < 2 ^ 63 then some (.non, xs.take i.toNat ++ [d] ++ xs.drop i.toNat) else none
  | _, _ => none
def lPop : List D → List D → Option (D × List D)
  | xs, [] => (match xs[xs.length - 1]? with
    | some d => some (d, xs.dropLast)
    | none => none)
  | _, _ => none
def lPopAt : List D → List D → Option (D × List D)
  | xs, [.int i] => if -(2 ^ 63) ≤ i ∧ i < 2 ^ 63 then (match seqIndex? i xs.length with
    | some k => (match xs[k]? with
      | some d => some (d, xs.eraseIdx k)
      | none => none)
    | none => none) else none
  | _, _ => none
theorem Reps.eraseIdx {F : Hp} : ∀ {ds : List D} {vs : List V} (k : Nat), Reps g F ds vs → Reps g F (ds.eraseIdx k) (vs.eraseIdx k)
  | [], vs, k, h => by rw [Reps.nil_iff.mp h]; exact Reps.nil
  | d :: ds, vs, k, h => by
    obtain ⟨v, r, rfl, h1, h2⟩ := Reps.cons_iff.mp h
    cases k with
    | zero => exact h2
    | succ k => exact Reps.cons h1 (h2.eraseIdx k)
theorem lm_app : LmOk g X "list.append" lApp := by
  intro xs ds ys r F a vs us H Q e hs rx rd ha k
  unfold lApp at e
  split at e
  · rename_i xs d
    split at e
    · rename_i hz
      cases e
      obtain ⟨u, us', rfl, h1, h2⟩ := Reps.cons_iff.mp rd
      cases Reps.nil_iff.mp h2
      exact mc (r := rAppend) mt_append ⟨a, vs, u, rfl, rfl, ha, by rw [rx.length]; exact hz, k .non _ (by unfold Rep; rfl) (rx.append (Reps.cons h1 Reps.nil))⟩
    · cases e
  · cases e
theorem rep_int {F : Hp} {i : Int} {v : V} (h : Rep g F (.int i) v) : v = .int i := by unfold Rep at h; exact h
theorem lm_ins : LmOk g X "list.insert" lIns := by
  intro xs ds ys r F a vs us H Q e hs rx rd ha k
  unfold lIns at e
  split at e
  · rename_i xs i d
    split at e
    · rename_i hz
      cases e
      obtain ⟨u, us', rfl, h1, h2⟩ := Reps.cons_iff.mp rd
      obtain ⟨u2, us2, rfl, h3, h4⟩ := Reps.cons_iff.mp h2
      cases Reps.nil_iff.mp h4
      cases rep_int h1
      exact mc mt_insert ⟨a, vs, i, u2, rfl, rfl, ha, by rw [rx.length]; exact hz.1, hz.2.1, hz.2.2, k .non _ (by unfold Rep; rfl) (((rx.take _).append (Reps.cons h3 Reps.nil)).append (rx.drop _))⟩
    · cases e
  · cases e
theorem lm_pop : LmOk g X "list.pop" lPop := by
  intro xs ds ys r F a vs us H Q e hs rx rd ha k
  unfold lPop at e
  split at e
  · rename_i xs
    split at e
    · rename_i d hd
      cases e
      cases Reps.nil_iff.mp rd
      obtain ⟨v, h1, h2⟩ := rx.get hd
      rw [← rx.length] at h1
      refine mc (r := rPop) mt_pop ⟨a, vs, v, rfl, rfl, ha, h1, k v _ h2 ?_⟩
      rw [List.dropLast_eq_take, List.dropLast_eq_take, rx.length]
      exact rx.take _
    · cases e
  · cases e
theorem lm_popAt : LmOk g X "list.pop" lPopAt := by
  intro xs ds ys r F a vs us H Q e hs rx rd ha k
  unfold lPopAt at e
  split at e
  · rename_i xs i
    split at e
    · rename_i hz
      split at e
      · rename_i j hj
        split at e
        · rename_i d hd
          cases e
          obtain ⟨u, us', rfl, h1, h2⟩ := Reps.cons_iff.mp rd
          cases Reps.nil_iff.mp h2
          cases rep_int h1
          obtain ⟨v, h3, h4⟩ := rx.get hd
          exact mc (r := rPopAt) mt_popAt ⟨a, vs, i, j, v, rfl, rfl, ha, hz.1, hz.2, by rw [rx.length]; exact hj, h3, k v _ h4 (rx.eraseIdx j)⟩
        · cases e
      · cases e
    · cases e
  · cases e
end

/-! ### the kit of classes, looked at in the head -/
def eqB (a b : Option Bool) : Bool := match a, b with
  | some x, some y => x == y
  | none, none => true
  | _, _ => false
theorem eqB_ok {a b : Option Bool} (h : eqB a b = true) : a = b := by
  unfold eqB at h
  split at h
  · rw [beq_iff_eq.mp h]
  · rfl
  · cases h
def kitB (cls : List Str) (n m : Nat) (sub : Nat → Nat → Bool) (K : PySem.W.Frag) : Bool :=
  (He.eqO (PySem.W.specialIn K (.builtin "object.__class__") "__get__") (some (some (.builtin "getset_descriptor.__get__"))) && eqB (PySem.W.takesIn K (.builtin "object.__class__")) (some true)) &&
  (((List.range n).all fun c => (He.Fa.cls (cls.getD c "")).ok K && (He.eqO (PySem.W.findIn K (.ref (He.ga K (cls.getD c ""))) "__class__") (some (some (.builtin "object.__class__"))) && eqB (PySem.W.mroIn K (He.ga K (cls.getD c "")) (.type "object")) (some true))) &&
  (((List.range m).all fun c => tyNames.all fun T => eqB (PySem.W.kitOne K (.type T) (.ref (He.ga K (cls.getD c "")))) (some false)) &&
  (((List.range n).all fun c => (List.range m).all fun c' => eqB (PySem.W.kitOne K (.ref (He.ga K (cls.getD c ""))) (.ref (He.ga K (cls.getD c' "")))) (some (sub c c'))) &&
  ((List.range n).all fun c => ["bool", "int", "str", "list", "tuple", "dict"].all fun T => eqB (PySem.W.kitOne K (.ref (He.ga K (cls.getD c ""))) (.type T)) (some false)))))
theorem kitB_ok {cls : List Str} {fls : List (List Str)} {n m : Nat} {sub : Nat → Nat → Bool} {K : PySem.W.Frag} (h : kitB cls n m sub K = true) : KitF (gOf cls fls K) n m sub := by
  unfold kitB at h
  simp only [Bool.and_eq_true, List.all_eq_true, List.mem_range] at h
  obtain ⟨⟨h1, h2⟩, h3, h4, h5, h6⟩ := h
  refine ⟨fun c hc => He.cls_ok (h3 c hc).1, fun c hc => He.eqO_ok (h3 c hc).2.1, fun _ => He.eqO_ok h1, fun _ => eqB_ok h2, fun c hc => eqB_ok (h3 c hc).2.2, fun c T hc hT => eqB_ok (h4 c hc T (List.contains_iff_mem.mp hT)), fun c c' hc hc' => eqB_ok (h5 c hc c' hc'), fun c T hc hT => eqB_ok (h6 c hc T (List.contains_iff_mem.mp hT))⟩

/-! ### a hook with a look of one's own -/
def obsZ (chk : PySem.W.Frag → Bool) (fa : List He.Fa) (fn : List He.DefD) (K : PySem.W.Frag) : He.AlD := ((chk K && fa.all fun f => f.ok K) && fn.all fun d => d.ok K, fn.map fun d => He.fnW K d.at_)
def SaysZ (chk : PySem.W.Frag → Bool) (fa : List He.Fa) (fn : List He.DefD) (K : PySem.W.Frag) : Prop := obsZ chk fa fn K = He.valD fn
def obsZG (n : Nat) (chk : PySem.W.Frag → Bool) (fa : List He.Fa) (fn : List He.DefD) (g : Addr → Option Obj) : He.AlD := obsZ chk fa fn (He.frG g (He.asD g n))
def hookZ (n : Nat) (chk : PySem.W.Frag → Bool) (fa : List He.Fa) (fn : List He.DefD) : PySem.W.Hook where
  α := He.AlD
  obs := fun s => obsZG n chk fa fn s.heap.get?
  val := fun _ => He.valD fn
  says := fun _ h => ∃ K : PySem.W.Frag, K.In h ∧ SaysZ chk fa fn K
  of := fun _ _ e => ⟨_, He.frG_in, e⟩
  keeps := fun _ _ _ ⟨K, hK, c⟩ k => ⟨K, PySem.W.Frag.In.keeps hK k, c⟩
theorem obsZG_eq {n : Nat} {chk : PySem.W.Frag → Bool} {fa : List He.Fa} {fn : List He.DefD} {g : Addr → Option Obj} {s : Shared} (h : ∀ a, g a = s.heap.get? a) : obsZG n chk fa fn g = (hookZ n chk fa fn).obs s := by
  have e : g = s.heap.get? := funext h
  rw [e] <;> rfl
theorem SaysZ.chk {chk : PySem.W.Frag → Bool} {fa : List He.Fa} {fn : List He.DefD} {K : PySem.W.Frag} (S : SaysZ chk fa fn K) : chk K = true :=
  (He.ba (He.ba (show ((chk K && fa.all fun f => f.ok K) && fn.all fun d => d.ok K) = true from congrArg (fun z : He.AlD => z.1) S)).1).1
theorem SaysZ.says {chk : PySem.W.Frag → Bool} {fa : List He.Fa} {fn : List He.DefD} {K : PySem.W.Frag} (S : SaysZ chk fa fn K) : He.SaysD fa fn K := by
  have h1 := He.ba (show ((chk K && fa.all fun f => f.ok K) && fn.all fun d => d.ok K) = true from congrArg (fun z : He.AlD => z.1) S)
  have h2 := (He.ba h1.1).2
  have h3 : fn.map (fun d => He.fnW K d.at_) = fn.map He.DefD.val := congrArg (fun z : He.AlD => z.2) S
  show ((fa.all fun f => f.ok K) && fn.all fun d => d.ok K, fn.map fun d => He.fnW K d.at_) = (true, fn.map He.DefD.val)
  rw [h2, h1.2, h3]
  rfl
end Sz

set_option Elab.async false
set_option linter.all false
set_option maxRecDepth 100000
set_option maxHeartbeats 4000000
/-! Sz M: own ==, slices. -/
namespace Sz
open PySem PySem.Spec L2

/-! ### own == -/
open Classical in
/-- what the def tells of these two, whatever else there is -/
noncomputable def eqSem (fi : FnI) (x y : D) : Option S := if h : ∃ d : D, ∀ μ : Sto, fi.sem [.val x, .val y] μ = some (.ok (.val d), μ) then some (.val (choose h)) else none
theorem eqSem_eq {fi : FnI} {x y d : D} (h : ∀ μ : Sto, fi.sem [.val x, .val y] μ = some (.ok (.val d), μ)) : eqSem fi x y = some (.val d) := by
  unfold eqSem
  have hx : ∃ d : D, ∀ μ : Sto, fi.sem [.val x, .val y] μ = some (.ok (.val d), μ) := ⟨d, h⟩
  rw [dif_pos hx]
  have h2 := Classical.choose_spec hx []
  rw [h []] at h2
  have h3 : d = Classical.choose hx := by
    injection h2 with h2
    injection h2 with h2 _
    injection h2 with h2
    injection h2
  rw [← h3]
theorem eqSem_some {fi : FnI} {x y : D} {s : S} (h : eqSem fi x y = some s) : ∃ d, s = .val d ∧ ∀ μ : Sto, fi.sem [.val x, .val y] μ = some (.ok (.val d), μ) := by
  unfold eqSem at h
  split at h
  · rename_i hx
    cases h
    exact ⟨_, rfl, Classical.choose_spec hx⟩
  · cases h
noncomputable def dEqO (eqm : Nat → Option FnI) : D → D → Option S
  | .obj c fs, .obj c' gs => (match eqm c, eqm c' with
    | some fi, some _ => eqSem fi (.obj c fs) (.obj c' gs)
    | _, _ => none)
  | x, y => dEq x y
/-- what is known of the classes' own __eq__ -/
structure EqC (g : G) (P : Program) (w : World) (mg : Str → Option Value) (base : Heap) (eqm : Nat → Option FnI) (k : Nat) : Prop where
  ok : ∀ c fi, eqm c = some fi → ∃ f, FnC g P w mg base fi k f [(2, [])] ∧ PySem.W.findIn g.K (.ref (g.cad c)) "__eq__" = some (some (.ref f)) ∧ PySem.W.isFn g.K (.ref f) = true ∧ fi.ps.length = 2
  nf : ∀ c c' fi fi', eqm c = some fi → eqm c' = some fi' → PySem.W.notFirst g.K (g.cad c) (.ref (g.cad c')) = true
section
variable {g : G} {P : Program} {w : World} {mg : Str → Option Value} {base : Heap} {k : Nat} {N : List Str} {sc : Scope} {own : Bool} {X : Cx} {W : WX}
theorem bind2 {α : Type} {ps : List Str} {a b : α} (h : ps.length = 2) : bindG [] [a, b] [] ([] : List α) ps.length ps 0 = some [a, b] := by
  match ps, h with
  | [p, q], _ => rfl
theorem bind2' {α : Type} {ps : List Str} {a b : α} {dfl : List α} (h : ps.length = 2) : bindG [] [a, b] [] dfl ps.length ps 0 = some [a, b] := by
  match ps, h with
  | [p, q], _ => rfl
theorem Ct.eqo {eqm : Nat → Option FnI} {j : Nat} (c : Ct g P w mg base k N sc own X W) (E : EqC g P w mg base eqm j) (hj : Nat.ble j k = true) : OpOk g X (compareOp .Eq) (dEqO eqm) := by
  intro x y s F as μ H v u Q e sr hx hy kk
  unfold dEqO at e
  split at e
  · rename_i ci fs ci' gs
    split at e
    · rename_i fi fi' hfi hfi'
      obtain ⟨d, rfl, hs⟩ := eqSem_some e
      obtain ⟨a, dx, vs, rfl, ha, _, _⟩ := vr_obj sr hx
      obtain ⟨b, dy, us, rfl, hb, _, _⟩ := vr_obj sr hy
      obtain ⟨f, hF, hfind, hfn, hps⟩ := E.ok ci fi hfi
      have hnf := E.nf ci ci' fi fi' hfi hfi'
      have hr := c.room.mono (Nat.le_of_ble_eq_true hj)
      have hK := c.K
      intro pins st σ v' u' I rv ru
      cases (show v' = Value.ref a from rv)
      cases (show u' = Value.ref b from ru)
      obtain ⟨mA, J, _⟩ := ins_get I.hok ha
      obtain ⟨mB, J', _⟩ := ins_get I.hok hb
      obtain ⟨od, J, _⟩ := J.look
      obtain ⟨od', J', _⟩ := J'.look
      obtain ⟨m, hFr⟩ := I.fr
      show wpAny (model X.prog X.w) X.A (richCompare .Eq (.ref a) (.ref b)) (EP X pins σ Q) X.xe st
      refine PySem.W.cmp_K (op := .Eq) (tb := .ref (g.cad ci')) hr.units0 hFr I.ok.mod.kin J J'.type (hK ▸ hnf) (hK ▸ hfind) (hK ▸ hfn) ?_
      have rx : RSs g F as [.val (.obj ci fs)] [.ref a] := .cons (show Rep g F (.obj ci fs) (.ref a) from by
        rcases hx with ⟨_, _, _, q, _⟩ | hx
        · cases q
        · exact hx) .nil
      have rxy : RSs g F as [.val (.obj ci fs), .val (.obj ci' gs)] [.ref a, .ref b] := .cons (show Rep g F (.obj ci fs) (.ref a) from by
        rcases hx with ⟨_, _, _, q, _⟩ | hx
        · cases q
        · exact hx) (.cons (show Rep g F (.obj ci' gs) (.ref b) from by
        rcases hy with ⟨_, _, _, q, _⟩ | hy
        · cases q
        · exact hy) .nil)
      have hcall : callF fi 2 [] [.val (.obj ci fs), .val (.obj ci' gs)] [] μ = some (.ok (.val d), μ) := by
        unfold callF
        rw [if_pos ⟨rfl, rfl⟩, bind2' hps]
        exact hs μ
      have key := callF_run (Q := Q) (c.fnK hF rfl) hr c.tk hcall sr rxy .nil (show PostE g W F as σ Q (.ok (.val d)) μ from fun F' as' w' H' e' sr' ra' => kk F' as' w' H' e' sr' ra') st [.ref a, .ref b] [] I (.cons rfl (.cons rfl .nil)) .nil
      refine wpAny_mono key (fun w' s' z => ?_) fun _ _ x => x
      obtain ⟨z', H', I', rz, qz⟩ := z
      exact SlX.cmpback rz ⟨z', H', I', rz, qz⟩
    · cases e
  · exact ok_eq c.K c.hu64 _ _ s F as μ H v u Q e sr hx hy kk

/-! ### slices -/
abbrev MO := En → Sto → Option (Except Ex (Option Int) × Sto)
def oNone : MO := fun _ μ => some (.ok none, μ)
def intK (μ : Sto) : Option D → Option (Except Ex (Option Int) × Sto)
  | some (.int i) => some (.ok (some i), μ)
  | _ => none
def oSome (m : ME) : MO := fun ρ μ => andThen (m ρ μ) fun s μ1 => intK μ1 (vw μ1 s)
def PostO (g : G) (W : WX) (F : Hp) (as : List Addr) (σ : L2.St) (Q : Option Int → Hp → Prop) : Except Ex (Option Int) → Sto → Prop
  | .ok o, μ' => ∀ F' as' H', Ext F as F' as' → SR g F' as' μ' H' → Q o H'
  | .error x, μ' => PErr g W F as σ x μ'
structure SO (g : G) (X : Cx) (W : WX) (oe : Option Expr) (m : MO) : Prop where
  ex : ∃ t : TO, PO X oe t ∧ ∀ (F : Hp) (as : List Addr) (ρ : En) (μ : Sto) (σ : L2.St) (H : Hp) (Q : Option Int → Hp → Prop) (r : Except Ex (Option Int)) (μ' : Sto), m ρ μ = some (r, μ') → SR g F as μ H → ER g F as ρ σ → PostO g W F as σ Q r μ' → t σ H Q
theorem so_none : SO g X W none oNone := ⟨_, po_none, fun F as ρ μ σ H Q r μ' h sr er post => by cases h; exact post F as H .refl sr⟩
theorem so_some {e : Expr} {m : ME} (he : SE g X W e m) : SO g X W (some e) (oSome m) := by
  refine ⟨_, po_some pe_wp, fun F as ρ μ σ H Q r μ' h sr er post => ?_⟩
  refine he.then_ (show andThen _ _ = some (r, μ') from h) sr er (fun x e => by subst e; exact post) fun s μ1 F1 as1 v H1 h1 x1 sr1 er1 ra1 => ?_
  unfold intK at h1
  split at h1
  · rename_i i hi
    cases h1
    cases vr_int (view_ra sr1 ra1 hi)
    exact ⟨i, rfl, post F1 as1 H1 x1 sr1⟩
  · cases h1
def cutD (xs : List D) (lo hi : Option Int) : List D := (xs.drop (HT.sIx xs.length 0 lo)).take (HT.sIx xs.length xs.length hi - HT.sIx xs.length 0 lo)
def dSl : D → Option Int → Option Int → Option S
  | .lst ds, lo, hi => some (.fr (cutD ds lo hi))
  | .tup ds, lo, hi => if HT.sIx ds.length 0 lo = 0 ∧ HT.sIx ds.length ds.length hi = ds.length then none else some (.val (.tup (cutD ds lo hi)))
  | _, _, _ => none
def slK (μ : Sto) (lo hi : Option Int) : Option D → Option R
  | some d => (match dSl d lo hi with
    | some s => some (.ok s, μ)
    | none => none)
  | none => none
def mSl (a : ME) (lo hi : MO) : ME := fun ρ μ => andThen (a ρ μ) fun s μ1 => andThen (lo ρ μ1) fun l μ2 => andThen (hi ρ μ2) fun u μ3 => slK μ3 l u (vw μ3 (rt s))
theorem cut_reps {F : Hp} {ds : List D} {vs : List V} {lo hi : Option Int} (r : Reps g F ds vs) : Reps g F (cutD ds lo hi) (cutV vs lo hi) := by
  unfold cutD cutV
  rw [r.length]
  exact (r.drop _).take _
theorem sl_or : SlR X (fun x lo hi H Q => rSlL X.K x lo hi H Q ∨ rSlT X.K x lo hi H Q) := sl_list.or sl_tup
theorem se_slice {a : Expr} {ma : ME} {lo hi : Option Expr} {ml mh : MO} {pos p2 : Pos} (hK : g.K = X.K) (ha : SE g X W a ma) (hl : SO g X W lo ml) (hh : SO g X W hi mh) : SE g X W (.Subscript a (.Slice lo hi none p2) pos) (mSl ma ml mh) := by
  obtain ⟨tl, pl, rl⟩ := hl.ex
  obtain ⟨th, ph, rh⟩ := hh.ex
  refine ⟨fun F as ρ μ σ H Q r μ' h sr er post => wE (pe_slice sl_or pe_wp pl ph) ?_⟩
  refine ha.then_ (show andThen _ _ = some (r, μ') from h) sr er (fun x e => by subst e; exact post) fun s μ1 F1 as1 v H1 h1 x1 sr1 er1 ra1 => ?_
  obtain ⟨F1', x1', sr1', rs1⟩ := root_ok sr1 ra1
  have er1' := er1.mono x1'
  rcases andThen_some h1 with ⟨x, e1, e2⟩ | ⟨l, μ2, e1, h2⟩
  · dsimp only at e1 e2
    subst e2
    exact rl F1' as1 ρ μ1 σ H1 _ (.error x) μ' e1 sr1' er1' (PErr.ext (x1.trans x1') post)
  refine rl F1' as1 ρ μ1 σ H1 _ (.ok l) μ2 e1 sr1' er1' fun F2 as2 H2 x2 sr2 => ?_
  have er2 := er1'.mono x2
  rcases andThen_some h2 with ⟨x, e3, e4⟩ | ⟨u, μ3, e3, h3⟩
  · dsimp only at e3 e4
    subst e4
    exact rh F2 as2 ρ μ2 σ H2 _ (.error x) μ' e3 sr2 er2 (PErr.ext ((x1.trans x1').trans x2) post)
  refine rh F2 as2 ρ μ2 σ H2 _ (.ok u) μ3 e3 sr2 er2 fun F3 as3 H3 x3 sr3 => ?_
  have rs3 := (rs1.mono x2).mono x3
  have xx := ((x1.trans x1').trans x2).trans x3
  unfold slK at h3
  split at h3
  · rename_i d hd
    have vd := view_rs sr3 rs3 hd
    unfold dSl at h3
    cases d with
    | lst ds =>
      cases h3
      obtain ⟨p, vs, rfl, hp, rv⟩ := vr_lst sr3 vd
      refine .inl ⟨p, vs, rfl, SqL.of hp, fun q hq => ?_⟩
      obtain ⟨sr4, f4, n4⟩ := sr3.loose (o := .lst (cutV vs l u)) hq
      exact post F3 as3 (.ref q) _ xx sr4 (ra_lst upd_same f4 n4 (cut_reps rv))
    | tup ds =>
      dsimp only at h3
      split at h3
      · rename_i q; split at q <;> cases q; cases h3; rename_i hw
        obtain ⟨p, vs, rfl, hp, rv⟩ := vr_tup sr3 vd
        refine .inr ⟨p, vs, rfl, hK ▸ hp, by rw [rv.length]; exact hw, fun q hq => ?_⟩
        obtain ⟨sr4, x4, e4⟩ := sr3.frozen (o := .tup (cutV vs l u)) hq
        refine post _ as3 (.ref q) _ (xx.trans x4) sr4 (show Rep g _ (.tup (cutD ds l u)) (.ref q) from ?_)
        unfold Rep
        exact ⟨q, _, rfl, SqT.of e4, (cut_reps rv).mono x4.1⟩
      · cases h3
    | _ => cases h3
  · cases h3
end

/-! ### is, of truths -/
def dIsB : D → D → Option S
  | .bl a, .bl b => some (.val (.bl (a == b)))
  | _, _ => none
def dIsNotB : D → D → Option S
  | .bl a, .bl b => some (.val (.bl (!(a == b))))
  | _, _ => none
section
variable {g : G} {X : Cx}
theorem bool_beq (a b : Bool) : (Value.bool a == Value.bool b) = (a == b) := by cases a <;> cases b <;> rfl
theorem op_isBl : OpR X (compareOp .Is) (fun x y H Q => ∃ a b, x = .bl a ∧ y = .bl b ∧ Q (.bl (a == b)) H) := by
  intro pins s σ H x y v u Q I rx ry h
  obtain ⟨a, b, rfl, rfl, q⟩ := h
  cases (show v = Value.bool a from rx)
  cases (show u = Value.bool b from ry)
  exact wpAny_is_plain rfl (fin_bl I q (bool_beq a b).symm)
theorem op_isnotBl : OpR X (compareOp .IsNot) (fun x y H Q => ∃ a b, x = .bl a ∧ y = .bl b ∧ Q (.bl (!(a == b))) H) := by
  intro pins s σ H x y v u Q I rx ry h
  obtain ⟨a, b, rfl, rfl, q⟩ := h
  cases (show v = Value.bool a from rx)
  cases (show u = Value.bool b from ry)
  exact wpAny_isNot_plain rfl (fin_bl I q (congrArg not (bool_beq a b).symm))
theorem ok_isB : OpOk g X (compareOp .Is) dIsB := by
  intro x y s F as μ H v u Q e sr hx hy k
  unfold dIsB at e
  split at e
  · cases e
    cases vr_bl hx
    cases vr_bl hy
    exact oc op_isBl ⟨_, _, rfl, rfl, k F as _ H .refl sr ra_bl⟩
  · cases e
theorem ok_isnotB : OpOk g X (compareOp .IsNot) dIsNotB := by
  intro x y s F as μ H v u Q e sr hx hy k
  unfold dIsNotB at e
  split at e
  · cases e
    cases vr_bl hx
    cases vr_bl hy
    exact oc op_isnotBl ⟨_, _, rfl, rfl, k F as _ H .refl sr ra_bl⟩
  · cases e
end
end Sz

set_option Elab.async false
set_option linter.all false
set_option maxRecDepth 100000
set_option maxHeartbeats 4000000
/-! Sz P: reckoning with codes. -/
namespace Sz
open PySem PySem.Spec L2

/-! ### steps -/
def slotM : Option (Option S) → Sto → Option R
  | some (some s), μ => some (.ok s, μ)
  | _, _ => none
theorem slotM_some {s : S} {μ : Sto} : slotM (some (some s)) μ = some (.ok s, μ) := rfl
theorem mVar_ap {i : Nat} {ρ : En} {μ : Sto} : mVar i ρ μ = slotM ρ[i]? μ := by
  unfold mVar slotM
  rcases ρ[i]? with _ | _ | s <;> rfl
theorem mK_ap {d : D} {ρ : En} {μ : Sto} : mK d ρ μ = some (.ok (.val d), μ) := rfl
theorem andThen_ok {α β : Type} {s : α} {μ : Sto} {f : α → Sto → Option (Except Ex β × Sto)} : andThen (some (.ok s, μ)) f = f s μ := rfl
theorem andThen_err {α β : Type} {x : Ex} {μ : Sto} {f : α → Sto → Option (Except Ex β × Sto)} : andThen (some (.error x, μ)) f = some (.error x, μ) := rfl
theorem andThen_if {α β : Type} {c : Prop} [Decidable c] {x y : Option (Except Ex α × Sto)} {f : α → Sto → Option (Except Ex β × Sto)} : andThen (if c then x else y) f = if c then andThen x f else andThen y f := by split <;> rfl
theorem exThen_ok {α : Type} {s : α} {μ : Sto} {ρ : En} {f : α → Sto → Option (Fl × En × Sto)} : exThen (some (.ok s, μ)) ρ f = f s μ := rfl
theorem exThen_err {α : Type} {x : Ex} {μ : Sto} {ρ : En} {f : α → Sto → Option (Fl × En × Sto)} : exThen (some (.error x, μ)) ρ f = some (.ex x, ρ, μ) := rfl
theorem exThen_if {α : Type} {c : Prop} [Decidable c] {x y : Option (Except Ex α × Sto)} {ρ : En} {f : α → Sto → Option (Fl × En × Sto)} : exThen (if c then x else y) ρ f = if c then exThen x ρ f else exThen y ρ f := by split <;> rfl
theorem vw_val {μ : Sto} {d : D} : vw μ (.val d) = some d := rfl
theorem vw_fr {μ : Sto} {ds : List D} : vw μ (.fr ds) = some (.lst ds) := rfl
def cellV : Option C → Option D
  | some (.lst ds) => some (.lst ds)
  | some (.frz d) => some d
  | _ => none
theorem vw_cell {μ : Sto} {k : Nat} : vw μ (.cell k) = cellV μ[k]? := by
  unfold vw cellV
  dsimp only
  all_goals (rcases μ[k]? with _ | c <;> first | rfl | (cases c <;> rfl))
theorem cellV_lst {ds : List D} : cellV (some (.lst ds)) = some (.lst ds) := rfl
theorem cellV_frz {d : D} : cellV (some (.frz d)) = some d := rfl
theorem rt_val {d : D} : rt (.val d) = .val d := rfl
theorem rt_fr {ds : List D} : rt (.fr ds) = .val (.lst ds) := rfl
theorem rt_cell {k : Nat} : rt (.cell k) = .cell k := rfl
def fin2K (μ : Sto) : Option S → Option R
  | some s => some (.ok s, μ)
  | none => none
theorem fin2K_some {μ : Sto} {s : S} : fin2K μ (some s) = some (.ok s, μ) := rfl
def opK (op : D → D → Option S) : Option D → Option D → Option S
  | some x, some y => op x y
  | _, _ => none
theorem opK_some {op : D → D → Option S} {x y : D} : opK op (some x) (some y) = op x y := rfl
theorem fin2_ap {op : D → D → Option S} {μ : Sto} {s t : S} : fin2 op μ s t = fin2K μ (opK op (vw μ s) (vw μ t)) := by
  unfold fin2 opK fin2K
  rcases vw μ s with _ | x <;> rcases vw μ t with _ | y <;> first | rfl | (dsimp only; cases op x y <;> rfl)
def op1K (op : D → Option S) : Option D → Option S
  | some x => op x
  | _ => none
theorem op1K_some {op : D → Option S} {x : D} : op1K op (some x) = op x := rfl
theorem fin1_ap {op : D → Option S} {μ : Sto} {s : S} : fin1 op μ s = fin2K μ (op1K op (vw μ s)) := by
  unfold fin1 op1K fin2K
  rcases vw μ s with _ | x
  · rfl
  · dsimp only
    all_goals (cases op x <;> rfl)
theorem mOp2_ap {op : D → D → Option S} {a b : ME} {ρ : En} {μ : Sto} : mOp2 op a b ρ μ = andThen (a ρ μ) fun s1 μ1 => andThen (b ρ μ1) fun s2 μ2 => fin2 op μ2 (rt s1) s2 := rfl
theorem mOp1_ap {op : D → Option S} {a : ME} {ρ : En} {μ : Sto} : mOp1 op a ρ μ = andThen (a ρ μ) fun s1 μ1 => fin1 op μ1 s1 := rfl
theorem add_ii {i j : Int} : dAdd (.int i) (.int j) = some (.val (.int (i + j))) := rfl
theorem sub_ii {i j : Int} : dSub (.int i) (.int j) = some (.val (.int (i - j))) := rfl
theorem neg_i {i : Int} : dNeg (.int i) = some (.val (.int (-i))) := rfl
theorem not_b {b : Bool} : dNot (.bl b) = some (.val (.bl (!b))) := rfl
theorem lt_ii {i j : Int} : dLt (.int i) (.int j) = some (.val (.bl (decide (i < j)))) := rfl
theorem le_ii {i j : Int} : dLe (.int i) (.int j) = some (.val (.bl (decide (i ≤ j)))) := rfl
theorem gt_ii {i j : Int} : dGt (.int i) (.int j) = some (.val (.bl (decide (j < i)))) := rfl
theorem ge_ii {i j : Int} : dGe (.int i) (.int j) = some (.val (.bl (decide (j ≤ i)))) := rfl
theorem eq_ii {i j : Int} : dEq (.int i) (.int j) = some (.val (.bl (decide (i = j)))) := by
  show (Option.map _ (pyEq (.int i) (.int j))) = _
  have : pyEq (.int i) (.int j) = some (decide (i = j)) := by
    show some (PyData.eqv (.int i) (.int j)) = _
    rfl
  rw [this]; rfl
theorem ne_ii {i j : Int} : dNe (.int i) (.int j) = some (.val (.bl (!decide (i = j)))) := by
  show (Option.map _ (pyEq (.int i) (.int j))) = _
  have : pyEq (.int i) (.int j) = some (decide (i = j)) := by
    show some (PyData.eqv (.int i) (.int j)) = _
    rfl
  rw [this]; rfl
/-- at most so many bits -/
def Bd (n : Nat) (i : Int) : Prop := i.natAbs < 2 ^ n
theorem Bd.mono {n m : Nat} {i : Int} (h : Bd n i) (e : n ≤ m) : Bd m i := Nat.lt_of_lt_of_le h (Nat.pow_le_pow_right (by decide) e)
theorem Bd.mul {n m : Nat} {i j : Int} (h : Bd n i) (g : Bd m j) : Bd (n + m) (i * j) := wide_lt h g
theorem Bd.add {n : Nat} {i j : Int} (h : Bd n i) (g : Bd n j) : Bd (n + 1) (i + j) := by
  unfold Bd at *
  rw [Nat.pow_succ]
  omega
theorem Bd.sub {n : Nat} {i j : Int} (h : Bd n i) (g : Bd n j) : Bd (n + 1) (i - j) := by
  unfold Bd at *
  rw [Nat.pow_succ]
  omega
theorem Bd.neg {n : Nat} {i : Int} (h : Bd n i) : Bd n (-i) := by
  unfold Bd at *
  omega
theorem Bd.bits {n : Nat} {i : Int} (h : Bd n i) : Builtin.Int.intBits i ≤ n := by
  unfold Builtin.Int.intBits
  by_cases e : i = 0
  · rw [if_pos (by rw [e]; rfl)]; exact Nat.zero_le _
  · rw [if_neg (by simpa using e)]
    have h0 : i.natAbs ≠ 0 := by omega
    exact (Nat.log2_lt h0).mpr h
theorem mulOk_bd {n m : Nat} {i j : Int} (h : Bd n i) (g : Bd m j) (e : n + m ≤ 134217728) : mulOk i j = true := by
  have h1 := h.bits
  have h2 := g.bits
  apply mulOk_of
  have eb : bitsLine = 134217728 := by decide
  unfold IntMulOk
  intro z
  rw [Bool.and_eq_true] at z
  have z2 := z.2
  unfold Builtin.Int.intTooBig at z2
  have z3 := of_decide_eq_true z2
  rw [eb] at z3
  omega
/-- one factor short -/
theorem mulOk_right {i j : Int} (g : Bd 64 j) : mulOk i j = true := by
  have h2 := g.bits
  apply mulOk_of
  unfold IntMulOk
  intro z
  rw [Bool.and_eq_true, Bool.and_eq_true] at z
  have := of_decide_eq_true z.1.2
  have e : shortFactorBits = 64 := rfl
  omega
theorem mulOk_left {i j : Int} (g : Bd 64 i) : mulOk i j = true := by
  have h2 := g.bits
  apply mulOk_of
  unfold IntMulOk
  intro z
  rw [Bool.and_eq_true, Bool.and_eq_true] at z
  have := of_decide_eq_true z.1.1
  have e : shortFactorBits = 64 := rfl
  omega
theorem mul_ii {i j : Int} (h : mulOk i j = true) : dMul (.int i) (.int j) = some (.val (.int (i * j))) := by
  unfold dMul
  dsimp only
  rw [if_pos h]
theorem mul_bd {i j : Int} (n m : Nat) (h : Bd n i) (g : Bd m j) (e : n + m ≤ 134217728 := by decide) : dMul (.int i) (.int j) = some (.val (.int (i * j))) := mul_ii (mulOk_bd h g e)
theorem fdiv_ii {i j : Int} (n : Nat) (h0 : j ≠ 0) (h : Bd n j) (hn : n ≤ 9000 := by decide) : dFdiv (.int i) (.int j) = some (.val (.int (i.fdiv j))) := by
  unfold dFdiv
  dsimp only
  have : j.natAbs ≠ 0 := by omega
  exact if_pos ⟨h0, Nat.lt_of_lt_of_le ((Nat.log2_lt this).mpr h) hn⟩
theorem mod_ii {i j : Int} (h0 : j ≠ 0) : dMod (.int i) (.int j) = some (.val (.int (i.fmod j))) := by
  unfold dMod
  dsimp only
  rw [if_pos h0]
theorem pow_ii {i j : Int} (n : Nat) (h : Bd n i) (h0 : 0 ≤ j) (e : n * j.toNat ≤ 2 ^ 27) : dPow (.int i) (.int j) = some (.val (.int (i ^ j.toNat))) := by
  unfold dPow
  dsimp only
  have h1 := h.bits
  have h2 : Builtin.Int.intBits i * j.toNat ≤ n * j.toNat := Nat.mul_le_mul_right _ h1
  have h3 : (Builtin.Int.intBits i : Int) * (j.toNat : Int) ≤ 2 ^ 27 := by exact_mod_cast Nat.le_trans h2 e
  rw [Int.toNat_of_nonneg h0] at h3
  exact if_pos ⟨h0, h3⟩
theorem ix_lst {ds : List D} {i : Int} : dIx (.lst ds) (.int i) = (atI ds i).map .val := rfl
theorem ix_tup {ds : List D} {i : Int} : dIx (.tup ds) (.int i) = (atI ds i).map .val := rfl
theorem ix_scr {ns : List Int} {i : Int} : dIx (.scr ns) (.int i) = (atI ns i).map fun n => .val (.int n) := rfl
theorem omap_some {α β : Type} {f : α → β} {a : α} : (some a).map f = some (f a) := rfl
theorem atI_mem {α : Type} {l : List α} {i : Int} (h0 : 0 ≤ i) (h1 : i < l.length) : ∃ x, atI l i = some x ∧ x ∈ l := by
  have h2 : i.toNat < l.length := by omega
  refine ⟨l[i.toNat], ?_, List.getElem_mem h2⟩
  unfold atI ixN
  rw [if_pos h0, if_pos h1]
  show l[i.toNat]? = _
  exact List.getElem?_eq_getElem h2
theorem atI0 {α : Type} {a : α} {l : List α} : atI (a :: l) 0 = some a := by
  unfold atI ixN
  rw [if_pos (by decide), if_pos (by simp only [List.length_cons]; omega)]
  rfl
theorem atI1 {α : Type} {a b : α} {l : List α} : atI (a :: b :: l) 1 = some b := by
  unfold atI ixN
  rw [if_pos (by decide), if_pos (by simp only [List.length_cons]; omega)]
  rfl
theorem atI2 {α : Type} {a b c : α} {l : List α} : atI (a :: b :: c :: l) 2 = some c := by
  unfold atI ixN
  rw [if_pos (by decide), if_pos (by simp only [List.length_cons]; omega)]
  rfl
theorem bl?_bl {b : Bool} : bl? (.val (.bl b)) = some b := rfl
def tBlK (μ : Sto) : Option Bool → Option (Except Ex Bool × Sto)
  | some b => some (.ok b, μ)
  | none => none
theorem tBlK_some {μ : Sto} {b : Bool} : tBlK μ (some b) = some (.ok b, μ) := rfl
theorem tBl_ap {a : ME} {ρ : En} {μ : Sto} : tBl a ρ μ = andThen (a ρ μ) fun s μ1 => tBlK μ1 (bl? s) := by
  unfold tBl
  congr
theorem tNotM_ap {a : MT} {ρ : En} {μ : Sto} : tNotM a ρ μ = andThen (a ρ μ) fun b μ1 => some (.ok (!b), μ1) := rfl
theorem tAndM_ap {a b : MT} {ρ : En} {μ : Sto} : tAndM a b ρ μ = andThen (a ρ μ) fun c μ1 => if c = true then b ρ μ1 else some (.ok false, μ1) := rfl
theorem tOrM_ap {a b : MT} {ρ : En} {μ : Sto} : tOrM a b ρ μ = andThen (a ρ μ) fun c μ1 => if c = true then some (.ok true, μ1) else b ρ μ1 := rfl
theorem tTrue_ap {ρ : En} {μ : Sto} : tTrue ρ μ = some (.ok true, μ) := rfl
theorem mIf_ap {t : MT} {a b : ME} {ρ : En} {μ : Sto} : mIf t a b ρ μ = andThen (t ρ μ) fun c μ1 => if c = true then a ρ μ1 else b ρ μ1 := rfl
def andK (μ : Sto) (x : Option R) : Option Bool → Option R
  | some true => x
  | some false => some (.ok (.val (.bl false)), μ)
  | none => none
def orK (μ : Sto) (x : Option R) : Option Bool → Option R
  | some false => x
  | some true => some (.ok (.val (.bl true)), μ)
  | none => none
theorem mAnd_ap {a b : ME} {ρ : En} {μ : Sto} : mAnd a b ρ μ = andThen (a ρ μ) fun s μ1 => andK μ1 (b ρ μ1) (bl? s) := by
  unfold mAnd
  congr
theorem mOr_ap {a b : ME} {ρ : En} {μ : Sto} : mOr a b ρ μ = andThen (a ρ μ) fun s μ1 => orK μ1 (b ρ μ1) (bl? s) := by
  unfold mOr
  congr
theorem andK_some {μ : Sto} {x : Option R} {b : Bool} : andK μ x (some b) = if b = true then x else some (.ok (.val (.bl false)), μ) := by cases b <;> rfl
theorem orK_some {μ : Sto} {x : Option R} {b : Bool} : orK μ x (some b) = if b = true then some (.ok (.val (.bl true)), μ) else x := by cases b <;> rfl
theorem mArgs_nil {ρ : En} {μ : Sto} : mArgs [] ρ μ = some (.ok [], μ) := rfl
theorem mArgs_cons {m : ME} {ms : List ME} {ρ : En} {μ : Sto} : mArgs (m :: ms) ρ μ = andThen (m ρ μ) fun s μ1 => andThen (mArgs ms ρ μ1) fun ss μ2 => some (.ok (rt s :: ss), μ2) := rfl
theorem mOwns_nil {ρ : En} {μ : Sto} : mOwns [] ρ μ = some (.ok [], μ) := rfl
theorem mOwns_cons {fl : Bool} {m : ME} {ms : List (Bool × ME)} {ρ : En} {μ : Sto} : mOwns ((fl, m) :: ms) ρ μ = andThen (m ρ μ) fun s μ1 => andThen (mOwns ms ρ (own fl s μ1).2) fun ss μ2 => some (.ok ((own fl s μ1).1 :: ss), μ2) := rfl
theorem mList_ap {ms : List ME} {ρ : En} {μ : Sto} : mList ms ρ μ = andThen (mArgs ms ρ μ) finL := rfl
theorem mTup_ap {ms : List ME} {ρ : En} {μ : Sto} : mTup ms ρ μ = andThen (mArgs ms ρ μ) finT := rfl
theorem mCallB_ap {op : List D → Option S} {ms : List ME} {ρ : En} {μ : Sto} : mCallB op ms ρ μ = andThen (mArgs ms ρ μ) (finB op) := rfl
/-- all are values -/
def vals? : List S → Option (List D)
  | [] => some []
  | .val d :: ss => (vals? ss).map (d :: ·)
  | _ => none
theorem vals_toDs {μ : Sto} : ∀ {ss : List S} {ds : List D}, vals? ss = some ds → toDs μ ss = some (ds, μ)
  | [], ds, h => by cases h; rfl
  | s :: ss, ds, h => by
    cases s with
    | val d =>
      unfold vals? at h
      obtain ⟨r, h1, rfl⟩ := Option.map_eq_some_iff.mp h
      unfold toDs
      show (match toDs μ ss with | none => none | some (ds, μ2) => some (d :: ds, μ2)) = _
      rw [vals_toDs h1]
    | cell k => cases h
    | fr x => cases h
theorem finL_vals {ss : List S} {ds : List D} {μ : Sto} (h : vals? ss = some ds) (hl : ds.length ≤ 1000) : finL ss μ = some (.ok (.fr ds), μ) := by
  unfold finL
  rw [vals_toDs h]
  show (if ds.length ≤ sizeLine then _ else _) = _
  rw [if_pos (Nat.le_trans hl (by decide))]
theorem finT_vals {ss : List S} {ds : List D} {μ : Sto} (h : vals? ss = some ds) (hl : ds.length ≤ 1000) : finT ss μ = some (.ok (.val (.tup ds)), μ) := by
  unfold finT
  rw [vals_toDs h]
  show (if ds.length ≤ sizeLine then _ else _) = _
  rw [if_pos (Nat.le_trans hl (by decide))]
/-- displays of values (short ones) -/
theorem finL1 {a : D} {μ : Sto} : finL [.val a] μ = some (.ok (.fr [a]), μ) := finL_vals rfl (by simp)
theorem finL2 {a b : D} {μ : Sto} : finL [.val a, .val b] μ = some (.ok (.fr [a, b]), μ) := finL_vals rfl (by simp)
theorem finL3 {a b c : D} {μ : Sto} : finL [.val a, .val b, .val c] μ = some (.ok (.fr [a, b, c]), μ) := finL_vals rfl (by simp)
theorem finL4 {a b c d : D} {μ : Sto} : finL [.val a, .val b, .val c, .val d] μ = some (.ok (.fr [a, b, c, d]), μ) := finL_vals rfl (by simp)
theorem finL5 {a b c d e : D} {μ : Sto} : finL [.val a, .val b, .val c, .val d, .val e] μ = some (.ok (.fr [a, b, c, d, e]), μ) := finL_vals rfl (by simp)
theorem finT2 {a b : D} {μ : Sto} : finT [.val a, .val b] μ = some (.ok (.val (.tup [a, b])), μ) := finT_vals rfl (by simp)
theorem finT3 {a b c : D} {μ : Sto} : finT [.val a, .val b, .val c] μ = some (.ok (.val (.tup [a, b, c])), μ) := finT_vals rfl (by simp)
def vwK : Option D → Option (List D) → Option (List D)
  | some d, some ds => some (d :: ds)
  | _, _ => none
theorem vwK_some {d : D} {ds : List D} : vwK (some d) (some ds) = some (d :: ds) := rfl
theorem vws_nil {μ : Sto} : vws μ [] = some [] := rfl
theorem vws_cons {μ : Sto} {s : S} {ss : List S} : vws μ (s :: ss) = vwK (vw μ s) (vws μ ss) := by
  show (match vw μ s, vws μ ss with
    | some d, some ds => some (d :: ds)
    | _, _ => none) = _
  unfold vwK
  rcases vw μ s with _ | d
  · rfl
  · rcases vws μ ss with _ | ds <;> rfl
def opsK (op : List D → Option S) : Option (List D) → Option S
  | some xs => op xs
  | none => none
theorem opsK_some {op : List D → Option S} {xs : List D} : opsK op (some xs) = op xs := rfl
theorem finB_ap {op : List D → Option S} {ss : List S} {μ : Sto} : finB op ss μ = fin2K μ (opsK op (vws μ ss)) := by
  unfold finB opsK fin2K
  rcases vws μ ss with _ | xs
  · rfl
  · dsimp only
    all_goals (cases op xs <;> rfl)
theorem len_scr {ns : List Int} : bLen [.scr ns] = some (.val (.int ns.length)) := rfl
theorem len_lst {ns : List D} : bLen [.lst ns] = some (.val (.int ns.length)) := rfl
theorem len_tup {ns : List D} : bLen [.tup ns] = some (.val (.int ns.length)) := rfl
theorem abs_i {i : Int} : bAbs [.int i] = some (.val (.int (i.natAbs : Int))) := by
  show some (S.val (.int (if i < 0 then -i else i))) = _
  congr 3
  split <;> omega
theorem min_ii {i j : Int} : bMin [.int i, .int j] = some (.val (.int (if j < i then j else i))) := rfl
theorem max_ii {i j : Int} : bMax [.int i, .int j] = some (.val (.int (if j > i then j else i))) := rfl
theorem int_b {b : Bool} : bInt [.bl b] = some (.val (.int (if b = true then 1 else 0))) := rfl
theorem int_i {i : Int} : bInt [.int i] = some (.val (.int i)) := rfl
/-! statements -/
def seqK : Option (Fl × En × Sto) → MS → Option (Fl × En × Sto)
  | some (.nx, ρ, μ), b => b ρ μ
  | r, _ => r
theorem seqK_nx {ρ : En} {μ : Sto} {b : MS} : seqK (some (.nx, ρ, μ)) b = b ρ μ := rfl
theorem seqK_rt {s : S} {ρ : En} {μ : Sto} {b : MS} : seqK (some (.rt s, ρ, μ)) b = some (.rt s, ρ, μ) := rfl
theorem seqK_ex {x : Ex} {ρ : En} {μ : Sto} {b : MS} : seqK (some (.ex x, ρ, μ)) b = some (.ex x, ρ, μ) := rfl
theorem seqK_bk {ρ : En} {μ : Sto} {b : MS} : seqK (some (.bk, ρ, μ)) b = some (.bk, ρ, μ) := rfl
theorem seqK_ct {ρ : En} {μ : Sto} {b : MS} : seqK (some (.ct, ρ, μ)) b = some (.ct, ρ, μ) := rfl
theorem seqK_if {c : Prop} [Decidable c] {x y : Option (Fl × En × Sto)} {b : MS} : seqK (if c then x else y) b = if c then seqK x b else seqK y b := by split <;> rfl
theorem sSeq_ap {a b : MS} {ρ : En} {μ : Sto} : sSeq a b ρ μ = seqK (a ρ μ) b := by
  unfold sSeq seqK
  rcases a ρ μ with _ | ⟨fl, ρ1, μ1⟩
  · rfl
  · cases fl <;> rfl
theorem sNil_ap {ρ : En} {μ : Sto} : sNil ρ μ = some (.nx, ρ, μ) := rfl
theorem sPass_ap {ρ : En} {μ : Sto} : sPass ρ μ = some (.nx, ρ, μ) := rfl
theorem sBreak_ap {ρ : En} {μ : Sto} : sBreak ρ μ = some (.bk, ρ, μ) := rfl
theorem sCont_ap {ρ : En} {μ : Sto} : sCont ρ μ = some (.ct, ρ, μ) := rfl
theorem sRet_ap {m : ME} {ρ : En} {μ : Sto} : sRet m ρ μ = exThen (m ρ μ) ρ fun s μ1 => some (.rt s, ρ, μ1) := rfl
theorem sRetN_ap {ρ : En} {μ : Sto} : sRetN ρ μ = some (.rt (.val .non), ρ, μ) := rfl
theorem sIf_ap {t : MT} {a b : MS} {ρ : En} {μ : Sto} : sIf t a b ρ μ = exThen (t ρ μ) ρ fun c μ1 => if c = true then a ρ μ1 else b ρ μ1 := rfl
theorem sExpr_ap {m : ME} {ρ : En} {μ : Sto} : sExpr m ρ μ = exThen (m ρ μ) ρ fun _ μ1 => some (.nx, ρ, μ1) := rfl
def nxK : Option (En × Sto) → Option (Fl × En × Sto)
  | some (ρ, μ) => some (.nx, ρ, μ)
  | none => none
theorem nxK_some {ρ : En} {μ : Sto} : nxK (some (ρ, μ)) = some (.nx, ρ, μ) := rfl
theorem sAsg_ap {t : MG} {m : ME} {ρ : En} {μ : Sto} : sAsg t m ρ μ = exThen (m ρ μ) ρ fun s μ1 => nxK (t s ρ μ1) := by
  unfold sAsg
  congr
theorem gNm_ap {i : Nat} {fl : Bool} {s : S} {ρ : En} {μ : Sto} : gNm i fl s ρ μ = some (ρ.set i (some (own fl s μ).1), (own fl s μ).2) := rfl
theorem own_false {s : S} {μ : Sto} : own false s μ = (rt s, μ) := by cases s <;> rfl
theorem own_val {fl : Bool} {d : D} {μ : Sto} : own fl (.val d) μ = (.val d, μ) := by cases fl <;> rfl
theorem own_cell {fl : Bool} {k : Nat} {μ : Sto} : own fl (.cell k) μ = (.cell k, μ) := by cases fl <;> rfl
theorem own_fr {ds : List D} {μ : Sto} : own true (.fr ds) μ = (.cell μ.length, μ ++ [.lst ds]) := rfl
def par2K (i j : Nat) (ρ : En) (μ : Sto) : List S → Option (Fl × En × Sto)
  | [s, t] => some (.nx, (ρ.set i (some s)).set j (some t), μ)
  | _ => none
def par3K (i j l : Nat) (ρ : En) (μ : Sto) : List S → Option (Fl × En × Sto)
  | [s, t, u] => some (.nx, ((ρ.set i (some s)).set j (some t)).set l (some u), μ)
  | _ => none
theorem sPar2_ap {i j : Nat} {ms : List (Bool × ME)} {ρ : En} {μ : Sto} : sPar2 i j ms ρ μ = exThen (mOwns ms ρ μ) ρ fun ss μ1 => par2K i j ρ μ1 ss := by
  unfold sPar2
  congr
theorem sPar3_ap {i j l : Nat} {ms : List (Bool × ME)} {ρ : En} {μ : Sto} : sPar3 i j l ms ρ μ = exThen (mOwns ms ρ μ) ρ fun ss μ1 => par3K i j l ρ μ1 ss := by
  unfold sPar3
  congr
theorem par2K_ap {i j : Nat} {ρ : En} {μ : Sto} {s t : S} : par2K i j ρ μ [s, t] = some (.nx, (ρ.set i (some s)).set j (some t), μ) := rfl
theorem par3K_ap {i j l : Nat} {ρ : En} {μ : Sto} {s t u : S} : par3K i j l ρ μ [s, t, u] = some (.nx, ((ρ.set i (some s)).set j (some t)).set l (some u), μ) := rfl
theorem gVals_nil {ρ : En} {μ : Sto} : gVals [] [] ρ μ = some (ρ, μ) := rfl
def gVK (ts : List MG) (ds : List D) : Option (En × Sto) → Option (En × Sto)
  | some (ρ1, μ1) => gVals ts ds ρ1 μ1
  | none => none
theorem gVK_some {ts : List MG} {ds : List D} {ρ : En} {μ : Sto} : gVK ts ds (some (ρ, μ)) = gVals ts ds ρ μ := rfl
theorem gVals_cons {t : MG} {ts : List MG} {d : D} {ds : List D} {ρ : En} {μ : Sto} : gVals (t :: ts) (d :: ds) ρ μ = gVK ts ds (t (.val d) ρ μ) := by
  show (match t (.val d) ρ μ with | some (ρ1, μ1) => gVals ts ds ρ1 μ1 | none => none) = _
  rcases t (.val d) ρ μ with _ | ⟨_, _⟩ <;> rfl
theorem gTu_tup {ts : List MG} {ds : List D} {ρ : En} {μ : Sto} : gTu ts (.val (.tup ds)) ρ μ = gVals ts ds ρ μ := rfl
theorem gTu_lst {ts : List MG} {ds : List D} {ρ : En} {μ : Sto} : gTu ts (.val (.lst ds)) ρ μ = gVals ts ds ρ μ := rfl
theorem gTu_fr {ts : List MG} {ds : List D} {ρ : En} {μ : Sto} : gTu ts (.fr ds) ρ μ = gVals ts ds ρ μ := rfl
/-- l[i] = v of a cell -/
theorem gSub_cell {o i : ME} {s : S} {ρ : En} {μ : Sto} {d : D} {k p : Nat} {j : Int} {ds : List D} (hs : rt s = .val d) (ho : o ρ μ = some (.ok (.cell k), μ)) (hi : i ρ μ = some (.ok (.val (.int j)), μ)) (hk : μ[k]? = some (.lst ds)) (hp : ixN ds.length j = some p) :
    gSubM o i s ρ μ = some (ρ, μ.set k (.lst (ds.set p d))) := by
  unfold gSubM
  rw [hs]
  show (match o ρ μ with
    | some (.ok so, μ2) => (match i ρ μ2 with
      | some (.ok si, μ3) => (match rt so, vw μ3 si with
        | .cell k, some (.int j) => (match μ3[k]? with
          | some (.lst ds) => (match ixN ds.length j with
            | some p => some (ρ, μ3.set k (.lst (ds.set p d)))
            | none => none)
          | _ => none)
        | _, _ => none)
      | _ => none)
    | _ => none) = _
  rw [ho]
  show (match i ρ μ with
      | some (.ok si, μ3) => (match rt (.cell k), vw μ3 si with
        | .cell k, some (.int j) => (match μ3[k]? with
          | some (.lst ds) => (match ixN ds.length j with
            | some p => some (ρ, μ3.set k (.lst (ds.set p d)))
            | none => none)
          | _ => none)
        | _, _ => none)
      | _ => none) = _
  rw [hi]
  show (match μ[k]? with
          | some (.lst ds) => (match ixN ds.length j with
            | some p => some (ρ, μ.set k (.lst (ds.set p d)))
            | none => none)
          | _ => none) = _
  rw [hk]
  show (match ixN ds.length j with
            | some p => some (ρ, μ.set k (.lst (ds.set p d)))
            | none => none) = _
  rw [hp]
/-! defs -/
theorem finF_nx {n : Nat} {ρ : En} {μ : Sto} : finF n (some (.nx, ρ, μ)) = some (.ok (.val .non), μ.take n) := rfl
theorem finF_ex {n : Nat} {ρ : En} {μ : Sto} {x : Ex} : finF n (some (.ex x, ρ, μ)) = some (.error x, μ.take n) := rfl
theorem finF_rt {n : Nat} {ρ : En} {μ : Sto} {s : S} : finF n (some (.rt s, ρ, μ)) = finR n μ s := rfl
theorem finR_val {n : Nat} {μ : Sto} {d : D} : finR n μ (.val d) = some (.ok (.val d), μ.take n) := rfl
theorem finR_fr {n : Nat} {μ : Sto} {d : List D} : finR n μ (.fr d) = some (.ok (.fr d), μ.take n) := rfl
theorem finF_if {n : Nat} {c : Prop} [Decidable c] {x y : Option (Fl × En × Sto)} : finF n (if c then x else y) = if c then finF n x else finF n y := by split <;> rfl
theorem mCallF_ap {fi : FnI} {n : Nat} {ks : List Str} {ms kms : List ME} {ρ : En} {μ : Sto} : mCallF fi n ks ms kms ρ μ = andThen (mArgs ms ρ μ) fun ss μ1 => andThen (mArgs kms ρ μ1) fun ts μ2 => callF fi n ks ss ts μ2 := rfl
theorem mMake_ap {mi : MkI} {n : Nat} {ks : List Str} {ms kms : List ME} {ρ : En} {μ : Sto} : mMake mi n ks ms kms ρ μ = andThen (mArgs ms ρ μ) fun ss μ1 => andThen (mArgs kms ρ μ1) fun ts μ2 => callM mi n ks ss ts μ2 := rfl
theorem callF_eq {fi : FnI} {n : Nat} {ks : List Str} {ss ts bs : List S} {μ : Sto} (h1 : ss.length = n) (h2 : ts.length = ks.length) (hb : bindG ks ss ts (fi.dfl.map .val) fi.ps.length fi.ps 0 = some bs) : callF fi n ks ss ts μ = fi.sem bs μ := by
  unfold callF
  rw [if_pos ⟨h1, h2⟩, hb]
theorem callM_eq {mi : MkI} {n : Nat} {ks : List Str} {ss ts bs : List S} {μ : Sto} (h1 : ss.length = n) (h2 : ts.length = ks.length) (hb : bindG ks (.cell μ.length :: ss) ts (mi.fi.dfl.map .val) mi.fi.ps.length mi.fi.ps 0 = some bs) : callM mi n ks ss ts μ = finM mi μ.length (mi.fi.sem bs (μ ++ [.ins mi.c []])) := by
  unfold callM
  rw [if_pos ⟨h1, h2⟩, hb]
def methK (m : Str) (mt : Nat → Option FnI) (n : Nat) (ks : List Str) (ms kms : List ME) (ρ : En) (s0 : S) (μ0 : Sto) : Option Nat → Option R
  | some c => (match mt c with
    | some fi => andThen (mArgs ms ρ μ0) fun ss μ1 => andThen (mArgs kms ρ μ1) fun ts μ2 => callF fi (n + 1) ks (rt s0 :: ss) ts μ2
    | none => none)
  | none => none
theorem mMeth_ap {m : Str} {mt : Nat → Option FnI} {n : Nat} {ks : List Str} {a : ME} {ms kms : List ME} {ρ : En} {μ : Sto} : mMeth m mt n ks a ms kms ρ μ = andThen (a ρ μ) fun s0 μ0 => methK m mt n ks ms kms ρ s0 μ0 (clsOf m μ0 (rt s0)) := by
  unfold mMeth
  congr
theorem methK_some {m : Str} {mt : Nat → Option FnI} {n : Nat} {ks : List Str} {ms kms : List ME} {ρ : En} {s0 : S} {μ0 : Sto} {c : Nat} {fi : FnI} (h : mt c = some fi) : methK m mt n ks ms kms ρ s0 μ0 (some c) = andThen (mArgs ms ρ μ0) fun ss μ1 => andThen (mArgs kms ρ μ1) fun ts μ2 => callF fi (n + 1) ks (rt s0 :: ss) ts μ2 := by
  show (match mt c with
    | some fi => andThen (mArgs ms ρ μ0) fun ss μ1 => andThen (mArgs kms ρ μ1) fun ts μ2 => callF fi (n + 1) ks (rt s0 :: ss) ts μ2
    | none => none) = _
  rw [h]
theorem clsOf_obj {m : Str} {μ : Sto} {c : Nat} {fs : List D} : clsOf m μ (.val (.obj c fs)) = some c := rfl
theorem mAttr_ap {fls : List (List Str)} {f : Str} {a : ME} {ρ : En} {μ : Sto} : mAttr fls f a ρ μ = andThen (a ρ μ) (finA fls f) := rfl
def fldK (μ : Sto) (fs : List D) : Option Nat → Option R
  | some k => (match fs[k]? with
    | some d => some (.ok (.val d), μ)
    | none => none)
  | none => none
theorem finA_obj {fls : List (List Str)} {f : Str} {c : Nat} {fs : List D} {μ : Sto} : finA fls f (.val (.obj c fs)) μ = fldK μ fs (fldIx fls c f) := by
  unfold finA fldK
  dsimp only
  all_goals (rcases fldIx fls c f with _ | k <;> first | rfl | (dsimp only; all_goals (rcases fs[k]? with _ | d <;> rfl)))
theorem ite_true' {α : Type} {x y : α} : (if (true = true) then x else y) = x := if_pos rfl
theorem ite_false' {α : Type} {x y : α} : (if (false = true) then x else y) = y := if_neg Bool.false_ne_true

theorem ite_T {α : Type} {h : Decidable True} {x y : α} : @ite α True h x y = x := if_pos trivial
theorem ite_F {α : Type} {h : Decidable False} {x y : α} : @ite α False h x y = y := if_neg id

/-! ### loops -/
def forK (t : MG) (b : MS) (ds : List D) : Option (Fl × En × Sto) → Option (Fl × En × Sto)
  | some (.nx, ρ2, μ2) => floop t b ds ρ2 μ2
  | some (.ct, ρ2, μ2) => floop t b ds ρ2 μ2
  | some (.bk, ρ2, μ2) => some (.nx, ρ2, μ2)
  | r => r
theorem floop_cons {t : MG} {b : MS} {d : D} {ds : List D} {ρ ρ1 : En} {μ μ1 : Sto} (h : t (.val d) ρ μ = some (ρ1, μ1)) : floop t b (d :: ds) ρ μ = forK t b ds (b ρ1 μ1) := by
  show (match t (.val d) ρ μ with
    | none => none
    | some (ρ1, μ1) => match b ρ1 μ1 with
      | some (.nx, ρ2, μ2) => floop t b ds ρ2 μ2
      | some (.ct, ρ2, μ2) => floop t b ds ρ2 μ2
      | some (.bk, ρ2, μ2) => some (.nx, ρ2, μ2)
      | r => r) = _
  rw [h]
  show (match b ρ1 μ1 with
      | some (.nx, ρ2, μ2) => floop t b ds ρ2 μ2
      | some (.ct, ρ2, μ2) => floop t b ds ρ2 μ2
      | some (.bk, ρ2, μ2) => some (.nx, ρ2, μ2)
      | r => r) = _
  unfold forK
  rcases b ρ1 μ1 with _ | ⟨fl, ρ2, μ2⟩
  · rfl
  · cases fl <;> rfl
/-- a loop whose body always comes to its end: an invariant -/
theorem floop_inv {t : MG} {b : MS} (I : En → Sto → Prop) (P : D → Prop) (step : ∀ d ρ μ, P d → I ρ μ → ∃ ρ1 μ1, t (.val d) ρ μ = some (ρ1, μ1) ∧ ∃ ρ2 μ2, b ρ1 μ1 = some (.nx, ρ2, μ2) ∧ I ρ2 μ2) :
    ∀ (ds : List D) (ρ : En) (μ : Sto), (∀ d ∈ ds, P d) → I ρ μ → ∃ ρ' μ', floop t b ds ρ μ = some (.nx, ρ', μ') ∧ I ρ' μ'
  | [], ρ, μ, _, h => ⟨ρ, μ, rfl, h⟩
  | d :: ds, ρ, μ, hp, h => by
    obtain ⟨ρ1, μ1, e1, ρ2, μ2, e2, h2⟩ := step d ρ μ (hp d List.mem_cons_self) h
    obtain ⟨ρ', μ', e3, h3⟩ := floop_inv I P step ds ρ2 μ2 (fun x hx => hp x (List.mem_cons_of_mem _ hx)) h2
    refine ⟨ρ', μ', ?_, h3⟩
    rw [floop_cons e1, e2]
    exact e3
theorem sFor_ap {i : MI} {t : MG} {b : MS} {ρ : En} {μ : Sto} : sFor i t b ρ μ = exThen (i ρ μ) ρ fun ds μ1 => floop t b ds ρ μ1 := rfl
theorem iVal_ap {m : ME} {ρ : En} {μ : Sto} : iVal m ρ μ = andThen (m ρ μ) (finI itemsOf) := rfl
theorem finI_lst {ds : List D} {μ : Sto} : finI itemsOf (.val (.lst ds)) μ = some (.ok ds, μ) := rfl
theorem finI_fr {ds : List D} {μ : Sto} : finI itemsOf (.fr ds) μ = some (.ok ds, μ) := rfl
theorem finI_tup {ds : List D} {μ : Sto} : finI itemsOf (.val (.tup ds)) μ = some (.ok ds, μ) := rfl
theorem iRange1_eq {a : ME} {ρ : En} {μ μ1 : Sto} {j : Int} (h : a ρ μ = some (.ok (.val (.int j)), μ1)) (hj : inR j = true) : iRange1 a ρ μ = some (.ok (rangeD 0 j.toNat), μ1) := by
  unfold iRange1
  rw [mArgs_cons, h]
  show (if inR j = true then _ else _) = _
  rw [if_pos hj]
theorem wloop_go {t : MT} {b : MS} {n : Nat} {ρ ρ2 : En} {μ μ1 μ2 : Sto} (h1 : t ρ μ = some (.ok true, μ1)) (h2 : b ρ μ1 = some (.nx, ρ2, μ2)) : wloop t b (n + 1) ρ μ = wloop t b n ρ2 μ2 := by
  show exThen (t ρ μ) ρ _ = _
  rw [h1]
  show (if true = true then (match b ρ μ1 with
      | some (.nx, ρ2, μ2) => wloop t b n ρ2 μ2
      | some (.ct, ρ2, μ2) => wloop t b n ρ2 μ2
      | some (.bk, ρ2, μ2) => some (.nx, ρ2, μ2)
      | r => r) else some (.nx, ρ, μ1)) = _
  rw [if_pos rfl, h2]
theorem wloop_stop {t : MT} {b : MS} {n : Nat} {ρ : En} {μ μ1 : Sto} (h1 : t ρ μ = some (.ok false, μ1)) : wloop t b (n + 1) ρ μ = some (.nx, ρ, μ1) := by
  show exThen (t ρ μ) ρ _ = _
  rw [h1]
  rfl

/-! ### the drawn hand -/
/-- a hand at k, drawn from at most n times -/
def HandAt (μ : Sto) (k n : Nat) : Prop := ∃ a b c : Int, μ[k]? = some (.lst [.int a, .int b, .int c]) ∧ 0 ≤ b ∧ b < 2 ^ 61 ∧ 0 ≤ c ∧ c ≤ n
/-- only k's cell is otherwise -/
def Upd (k : Nat) (μ μ' : Sto) : Prop := μ'.length = μ.length ∧ ∀ j, j ≠ k → μ'[j]? = μ[j]?
theorem Upd.refl {k : Nat} {μ : Sto} : Upd k μ μ := ⟨rfl, fun _ _ => rfl⟩
theorem Upd.trans {k : Nat} {μ μ1 μ2 : Sto} (a : Upd k μ μ1) (b : Upd k μ1 μ2) : Upd k μ μ2 := ⟨b.1.trans a.1, fun j h => (b.2 j h).trans (a.2 j h)⟩
theorem Upd.set {k : Nat} {μ : Sto} {c : C} : Upd k μ (μ.set k c) := ⟨List.length_set, fun j h => List.getElem?_set_ne (Ne.symm h)⟩
theorem Upd.take {k : Nat} {μ μ' : Sto} (h : Upd k μ μ') : μ'.take μ.length = μ' := List.take_of_length_le (Nat.le_of_eq h.1)
theorem HandAt.mono {μ : Sto} {k n m : Nat} (h : HandAt μ k n) (e : n ≤ m) : HandAt μ k m := by
  obtain ⟨a, b, c, h1, h2, h3, h4, h5⟩ := h
  exact ⟨a, b, c, h1, h2, h3, h4, by omega⟩
theorem get_set {μ : Sto} {k : Nat} {x c : C} (h : μ[k]? = some x) : (μ.set k c)[k]? = some c := List.getElem?_set_self (List.getElem?_eq_some_iff.mp h).1

theorem get_end {α : Type} {μ : List α} {x : α} : (μ ++ [x])[μ.length]? = some x := by rw [List.getElem?_append_right (Nat.le_refl _), Nat.sub_self]; rfl
theorem set_end {α : Type} {μ : List α} {x y : α} : (μ ++ [x]).set μ.length y = μ ++ [y] := by
  rw [List.set_append_right _ _ (Nat.le_refl _), Nat.sub_self]; rfl
theorem take_end {α : Type} {μ : List α} {x : α} : (μ ++ [x]).take μ.length = μ := by rw [List.take_left]
theorem fld_ap {n : Nat} {f : Str} {o m : ME} {ρ : En} {μ : Sto} {d : D} {k c : Nat} {fs : List (Str × D)} (hm : m ρ μ = some (.ok (.val d), μ)) (ho : o ρ μ = some (.ok (.cell k), μ)) (hk : μ[k]? = some (.ins c fs)) (hc : c < n) (hl : fs.length < 1000) :
    sFldM n f o m ρ μ = some (.nx, ρ, μ.set k (.ins c (putD f d fs))) := by
  unfold sFldM
  rw [hm]
  show exThen (o ρ μ) ρ _ = _
  rw [ho]
  show (match μ[k]? with
      | some (.ins c fs) => if c < n ∧ fs.length < 1000 then some (Fl.nx, ρ, μ.set k (.ins c (putD f d fs))) else none
      | _ => none) = _
  rw [hk]
  exact if_pos ⟨hc, hl⟩
theorem finM_ap {mi : MkI} {k c : Nat} {fs : List (Str × D)} {μ : Sto} (hk : μ[k]? = some (.ins c fs)) (hc : c = mi.c) (hf : fs.map (·.1) = mi.fl) : finM mi k (some (.ok (.val .non), μ)) = some (.ok (.val (.obj mi.c (fs.map (·.2)))), μ.take k) := by
  unfold finM
  dsimp only
  rw [hk]
  exact if_pos ⟨hc, hf⟩
/-- Euclid's loop by remainders: what it comes to -/
theorem euclid {t : MT} {b : MS} {mk : Nat → Nat → En} {μ : Sto} (h0 : ∀ x, t (mk x 0) μ = some (.ok false, μ)) (h1 : ∀ x y, 0 < y → t (mk x y) μ = some (.ok true, μ)) (h2 : ∀ x y, 0 < y → b (mk x y) μ = some (.nx, mk y (x % y), μ)) :
    ∀ (y x : Nat), ∃ n, wloop t b n (mk x y) μ = some (.nx, mk (Nat.gcd x y) 0, μ) := by
  intro y
  induction y using Nat.strongRecOn with
  | ind y ih =>
    intro x
    by_cases hy : y = 0
    · subst hy
      exact ⟨1, by rw [wloop_stop (h0 x), Nat.gcd_zero_right]⟩
    · obtain ⟨n, hn⟩ := ih (x % y) (Nat.mod_lt _ (Nat.pos_of_ne_zero hy)) y
      refine ⟨n + 1, ?_⟩
      rw [wloop_go (h1 x y (Nat.pos_of_ne_zero hy)) (h2 x y (Nat.pos_of_ne_zero hy)), hn]
      congr 3
      rw [Nat.gcd_comm y, ← Nat.gcd_rec, Nat.gcd_comm]
theorem mem_ints {P : Int → Prop} {l : List Int} {d : D} (h : d ∈ l.map D.int) (hp : ∀ x ∈ l, P x) : ∃ v, d = .int v ∧ P v := by
  obtain ⟨x, hx, rfl⟩ := List.mem_map.mp h
  exact ⟨x, rfl, hp x hx⟩

/-! ### comprehensions -/
theorem mComp_ap {i : MI} {t : MG} {c : MT} {el : ME} {ow : List Nat} {ρ : En} {μ : Sto} : mComp i t c el ow ρ μ = andThen (i ρ μ) fun ds μ1 => finC μ1.length (cloop t c el (wipeE ρ ow) μ1.length ds (μ1 ++ [.lst []])) := rfl
theorem cput_end {μ : Sto} {acc : List D} {d : D} (h : acc.length < 1000) : cput μ.length (.val d) (μ ++ [.lst acc]) = some (μ ++ [.lst (acc ++ [d])]) := by
  have e : toD (μ ++ [C.lst acc]) (rt (.val d)) = some (d, μ ++ [C.lst acc]) := rfl
  unfold cput
  rw [e]
  dsimp only
  rw [get_end]
  dsimp only
  rw [if_pos (Nat.lt_of_lt_of_le h (by decide)), set_end]
theorem cloop_map {t : MG} {el : ME} {ρ : En} {μ : Sto} (f : D → D) : ∀ (ds acc : List D), acc.length + ds.length ≤ 1000 → (∀ d ∈ ds, ∀ ν : Sto, ∃ ρ', t (.val d) ρ ν = some (ρ', ν) ∧ el ρ' ν = some (.ok (.val (f d)), ν)) →
    cloop t tTrue el ρ μ.length ds (μ ++ [.lst acc]) = some (μ ++ [.lst (acc ++ ds.map f)])
  | [], acc, _, _ => by rw [List.map_nil, List.append_nil]; rfl
  | d :: ds, acc, hl, h => by
    obtain ⟨ρ', h1, h2⟩ := h d List.mem_cons_self (μ ++ [.lst acc])
    rw [List.length_cons] at hl
    unfold cloop
    rw [h1]
    dsimp only
    rw [tTrue_ap]
    dsimp only
    rw [h2]
    dsimp only
    rw [cput_end (by omega)]
    dsimp only
    rw [cloop_map f ds (acc ++ [f d]) (by rw [List.length_append, List.length_singleton]; omega) (fun x hx => h x (List.mem_cons_of_mem _ hx)), List.append_assoc]
    rfl
theorem comp_map {i : MI} {t : MG} {el : ME} {ow : List Nat} {ρ : En} {μ : Sto} {ds : List D} (f : D → D) (hi : i ρ μ = some (.ok ds, μ)) (hl : ds.length ≤ 1000) (h : ∀ d ∈ ds, ∀ ν : Sto, ∃ ρ', t (.val d) (wipeE ρ ow) ν = some (ρ', ν) ∧ el ρ' ν = some (.ok (.val (f d)), ν)) :
    mComp i t tTrue el ow ρ μ = some (.ok (.fr (ds.map f)), μ) := by
  rw [mComp_ap, hi, andThen_ok, cloop_map f ds [] (by rw [List.length_nil]; omega) h, List.nil_append]
  unfold finC
  dsimp only
  rw [get_end]
  dsimp only
  rw [take_end]

/-! ### a list's methods -/
def lmK (op : List D → List D → Option (D × List D)) (ms : List ME) (ρ : En) (μ1 : Sto) : S → Option R
  | .cell k => if isLst μ1[k]? = true then andThen (mArgs ms ρ μ1) (finLm op k) else none
  | _ => none
theorem mLm_ap {op : List D → List D → Option (D × List D)} {o : ME} {ms : List ME} {ρ : En} {μ : Sto} : mLm op o ms ρ μ = andThen (o ρ μ) fun s μ1 => lmK op ms ρ μ1 (rt s) := rfl
theorem lmK_cell {op : List D → List D → Option (D × List D)} {ms : List ME} {ρ : En} {μ1 : Sto} {k : Nat} : lmK op ms ρ μ1 (.cell k) = if isLst μ1[k]? = true then andThen (mArgs ms ρ μ1) (finLm op k) else none := rfl
theorem isLst_lst {xs : List D} : isLst (some (.lst xs)) = true := rfl
def lm4K (k : Nat) (μ : Sto) : Option (D × List D) → Option R
  | some (r, ys) => some (.ok (.val r), μ.set k (.lst ys))
  | none => none
def lm3K (op : List D → List D → Option (D × List D)) (ds : List D) (k : Nat) (μ : Sto) : Option C → Option R
  | some (.lst xs) => lm4K k μ (op xs ds)
  | _ => none
theorem finLm_of {op : List D → List D → Option (D × List D)} {ss : List S} {ds : List D} {k : Nat} {μ : Sto} (h : vals? ss = some ds) : finLm op k ss μ = lm3K op ds k μ μ[k]? := by
  unfold finLm
  rw [vals_toDs h]
  dsimp only
  unfold lm3K
  rcases μ[k]? with _ | c
  · rfl
  · cases c with
    | lst xs =>
      dsimp only
      unfold lm4K
      rcases op xs ds with _ | ⟨_, _⟩ <;> rfl
    | frz _ => rfl
    | ins _ _ => rfl
theorem finLm0 {op : List D → List D → Option (D × List D)} {k : Nat} {μ : Sto} : finLm op k [] μ = lm3K op [] k μ μ[k]? := finLm_of rfl
theorem finLm1 {op : List D → List D → Option (D × List D)} {d : D} {k : Nat} {μ : Sto} : finLm op k [.val d] μ = lm3K op [d] k μ μ[k]? := finLm_of rfl
theorem finLm2 {op : List D → List D → Option (D × List D)} {d e : D} {k : Nat} {μ : Sto} : finLm op k [.val d, .val e] μ = lm3K op [d, e] k μ μ[k]? := finLm_of rfl
theorem lm3K_lst {op : List D → List D → Option (D × List D)} {xs ds : List D} {k : Nat} {μ : Sto} : lm3K op ds k μ (some (.lst xs)) = lm4K k μ (op xs ds) := rfl
theorem lm4K_some {r : D} {ys : List D} {k : Nat} {μ : Sto} : lm4K k μ (some (r, ys)) = some (.ok (.val r), μ.set k (.lst ys)) := rfl
theorem lApp_ok {xs : List D} {d : D} (h : xs.length < 1000) : lApp xs [d] = some (.non, xs ++ [d]) := by
  show (if xs.length < sizeLine then _ else _) = _
  exact if_pos (Nat.lt_of_lt_of_le h (by decide))
theorem add_ll {a b : List D} (h : a.length + b.length ≤ 1000) : dAdd (.lst a) (.lst b) = some (.fr (a ++ b)) := by
  show (if a.length + b.length ≤ sizeLine then _ else _) = _
  exact if_pos (Nat.le_trans h (by decide))
theorem finI_end {μ : Sto} {ds : List D} : finI itemsOf (.cell μ.length) (μ ++ [.lst ds]) = some (.ok ds, μ ++ [.frz (.lst ds)]) := by
  unfold finI
  have e : toD (μ ++ [.lst ds]) (rt (.cell μ.length)) = some (.lst ds, μ ++ [.frz (.lst ds)]) := by
    unfold toD
    dsimp only [rt]
    rw [get_end]
    dsimp only
    rw [set_end]
  rw [e]
  rfl
theorem comp_map' {i : MI} {t : MG} {el : ME} {ow : List Nat} {ρ : En} {μ μ1 : Sto} {ds : List D} (f : D → D) (hi : i ρ μ = some (.ok ds, μ1)) (hl : ds.length ≤ 1000) (h : ∀ d ∈ ds, ∀ ν : Sto, ∃ ρ', t (.val d) (wipeE ρ ow) ν = some (ρ', ν) ∧ el ρ' ν = some (.ok (.val (f d)), ν)) :
    mComp i t tTrue el ow ρ μ = some (.ok (.fr (ds.map f)), μ1) := by
  rw [mComp_ap, hi, andThen_ok, cloop_map f ds [] (by rw [List.length_nil]; omega) h, List.nil_append]
  unfold finC
  dsimp only
  rw [get_end]
  dsimp only
  rw [take_end]
theorem bls_true : ∀ {ds : List D}, bls? (ds.map fun _ => .bl true) = some (ds.map fun _ => true)
  | [] => rfl
  | d :: ds => by
    show (bls? (ds.map fun _ => .bl true)).map (true :: ·) = _
    rw [bls_true]
    rfl
theorem ball_true {ds : List D} : bAll [.lst (ds.map fun _ => .bl true)] = some (.val (.bl true)) := by
  show (bls? (ds.map fun _ => .bl true)).map _ = _
  rw [bls_true]
  show some (S.val (.bl ((ds.map fun _ => true).all id))) = _
  congr 3
  rw [List.all_eq_true]
  intro x hx
  obtain ⟨_, _, rfl⟩ := List.mem_map.mp hx
  rfl

theorem cloop_filter {t : MG} {c : MT} {el : ME} {ρ : En} {μ : Sto} (p : D → Bool) (f : D → D) : ∀ (ds acc : List D), acc.length + ds.length ≤ 1000 → (∀ d ∈ ds, ∀ ν : Sto, ∃ ρ', t (.val d) ρ ν = some (ρ', ν) ∧ c ρ' ν = some (.ok (p d), ν) ∧ (p d = true → el ρ' ν = some (.ok (.val (f d)), ν))) →
    cloop t c el ρ μ.length ds (μ ++ [.lst acc]) = some (μ ++ [.lst (acc ++ (ds.filter p).map f)])
  | [], acc, _, _ => by rw [List.filter_nil, List.map_nil, List.append_nil]; rfl
  | d :: ds, acc, hl, h => by
    obtain ⟨ρ', h1, h2, h3⟩ := h d List.mem_cons_self (μ ++ [.lst acc])
    rw [List.length_cons] at hl
    unfold cloop
    rw [h1]
    dsimp only
    rw [h2]
    cases e : p d with
    | false =>
      dsimp only
      rw [cloop_filter p f ds acc (by omega) (fun x hx => h x (List.mem_cons_of_mem _ hx)), List.filter_cons_of_neg (by rw [e]; exact Bool.false_ne_true)]
    | true =>
      dsimp only
      rw [h3 e]
      dsimp only
      rw [cput_end (by omega)]
      dsimp only
      rw [cloop_filter p f ds (acc ++ [f d]) (by rw [List.length_append, List.length_singleton]; omega) (fun x hx => h x (List.mem_cons_of_mem _ hx)), List.append_assoc, List.filter_cons_of_pos e]
      rfl
theorem comp_filter {i : MI} {t : MG} {c : MT} {el : ME} {ow : List Nat} {ρ : En} {μ μ1 : Sto} {ds : List D} (p : D → Bool) (f : D → D) (hi : i ρ μ = some (.ok ds, μ1)) (hl : ds.length ≤ 1000)
    (h : ∀ d ∈ ds, ∀ ν : Sto, ∃ ρ', t (.val d) (wipeE ρ ow) ν = some (ρ', ν) ∧ c ρ' ν = some (.ok (p d), ν) ∧ (p d = true → el ρ' ν = some (.ok (.val (f d)), ν))) :
    mComp i t c el ow ρ μ = some (.ok (.fr ((ds.filter p).map f)), μ1) := by
  rw [mComp_ap, hi, andThen_ok, cloop_filter p f ds [] (by rw [List.length_nil]; omega) h, List.nil_append]
  unfold finC
  dsimp only
  rw [get_end]
  dsimp only
  rw [take_end]
theorem is_non {x : D} : dIs x .non = some (.val (.bl (isNon x))) := rfl
theorem isnot_non {x : D} : dIsNot x .non = some (.val (.bl (!isNon x))) := rfl
theorem isNon_non : isNon .non = true := rfl
theorem isNon_int {i : Int} : isNon (.int i) = false := rfl
theorem isNon_tup {ds : List D} : isNon (.tup ds) = false := rfl
theorem isNon_obj {c : Nat} {ds : List D} : isNon (.obj c ds) = false := rfl
theorem eq_bb {a b : Bool} : dEq (.bl a) (.bl b) = some (.val (.bl (a == b))) := by cases a <;> cases b <;> rfl
end Sz

set_option Elab.async false
set_option linter.all false
set_option maxRecDepth 100000
set_option maxHeartbeats 4000000
/-! the codes -/
namespace Law
open PySem PySem.Spec L2 Sz
abbrev tCls : List Str := ["Measure", "Stretch"]
abbrev tFls : List (List Str) := [["top", "bottom"], ["low", "high", "low_in", "high_in"]]
abbrev nCls : Nat := 2
abbrev nKit : Nat := 2
abbrev subK : Nat → Nat → Bool := fun a b => a == b
noncomputable def c_l_hand_of : MS := sSeq (sAsg (gNm 2 false) (mK (.int 0))) (sSeq (sIf (tBl (mOp2 dLt (mVar 1) (mCallB bLen [mVar 0]))) (sSeq (sAsg (gNm 2 false) (mOp2 dIx (mVar 0) (mVar 1))) sNil) sNil) (sSeq (sAsg (gNm 3 false) (mOp2 dMod (mOp2 dAdd (mOp2 dAdd (mOp2 dMod (mVar 2) (mK (.int 2305843009213693951))) (mOp2 dMul (mK (.int 7919)) (mVar 1))) (mK (.int 3))) (mK (.int 2305843009213693951)))) (sSeq (sRet (mList [mOp2 dMul (mVar 2) (mCallB bInt [mOp2 dGe (mVar 2) (mOp2 dPow (mK (.int 10)) (mK (.int 18)))]), mVar 3, mK (.int 0)])) sNil)))
noncomputable def fi_l_hand_of : FnI := ⟨["_law_script", "_law_k"], ([] : List D), fnSem 4 c_l_hand_of⟩
noncomputable def c_l_take : MS := sSeq (sIf (tBl (mOp2 dGt (mOp2 dIx (mVar 0) (mK (.int 0))) (mK (.int 0)))) (sSeq (sAsg (gNm 2 false) (mOp2 dMod (mOp2 dIx (mVar 0) (mK (.int 0))) (mVar 1))) (sSeq (sAsg (gSubM (mVar 0) (mK (.int 0))) (mOp2 dFdiv (mOp2 dIx (mVar 0) (mK (.int 0))) (mVar 1))) (sSeq (sRet (mVar 2)) sNil))) sNil) (sSeq (sAsg (gSubM (mVar 0) (mK (.int 2))) (mOp2 dAdd (mOp2 dIx (mVar 0) (mK (.int 2))) (mK (.int 1)))) (sSeq (sAsg (gNm 3 false) (mOp2 dMod (mOp2 dPow (mOp2 dAdd (mOp2 dAdd (mOp2 dIx (mVar 0) (mK (.int 1))) (mOp2 dMul (mOp2 dMul (mK (.int 65537)) (mOp2 dIx (mVar 0) (mK (.int 2)))) (mOp2 dIx (mVar 0) (mK (.int 2))))) (mK (.int 11))) (mK (.int 3))) (mK (.int 2305843009213693921)))) (sSeq (sAsg (gNm 3 false) (mOp2 dMod (mOp2 dMul (mVar 3) (mOp2 dAdd (mOp2 dMod (mVar 3) (mK (.int 1000003))) (mOp2 dMul (mK (.int 99991)) (mOp2 dIx (mVar 0) (mK (.int 2)))))) (mK (.int 2305843009213693907)))) (sSeq (sRet (mOp2 dMod (mOp2 dAdd (mOp2 dFdiv (mVar 3) (mK (.int 97))) (mOp2 dFdiv (mVar 3) (mK (.int 1000033)))) (mVar 1))) sNil))))
noncomputable def fi_l_take : FnI := ⟨["_law_hand", "_law_many"], ([] : List D), fnSem 4 c_l_take⟩
noncomputable def c_l_end_of : MS := sSeq (sAsg (gNm 1 false) (mOp2 dIx (mList [mK (.int 1), mK (.int 1), mK (.int 2), mK (.int 3), mK (.int 6), mK (.int 7), mK (.int 12), mOp2 dAdd (mOp2 dPow (mK (.int 10)) (mK (.int 9))) (mK (.int 7))]) (mCallF fi_l_take 2 [] [mVar 0, mK (.int 8)] []))) (sSeq (sRet (mTup [mOp2 dAdd (mOp2 dSub (mCallF fi_l_take 2 [] [mVar 0, mOp2 dMul (mK (.int 9)) (mCallB bMin [mVar 1, mK (.int 12)])] []) (mK (.int 3))) (mOp2 dMul (mVar 1) (mOp2 dIx (mList [mK (.int 0), mK (.int 0), mK (.int 0), mOp2 dPow (mK (.int 10)) (mK (.int 30))]) (mCallF fi_l_take 2 [] [mVar 0, mK (.int 4)] []))), mVar 1])) sNil)
noncomputable def fi_l_end_of : FnI := ⟨["_law_hand"], ([] : List D), fnSem 2 c_l_end_of⟩
noncomputable def c_l_below : MS := sSeq (sRet (mOp2 dLt (mOp2 dMul (mOp2 dIx (mVar 0) (mK (.int 0))) (mOp2 dIx (mVar 1) (mK (.int 1)))) (mOp2 dMul (mOp2 dIx (mVar 1) (mK (.int 0))) (mOp2 dIx (mVar 0) (mK (.int 1)))))) sNil
noncomputable def fi_l_below : FnI := ⟨["_law_one", "_law_two"], ([] : List D), fnSem 2 c_l_below⟩
noncomputable def c_l_same : MS := sSeq (sRet (mOp2 dEq (mOp2 dMul (mOp2 dIx (mVar 0) (mK (.int 0))) (mOp2 dIx (mVar 1) (mK (.int 1)))) (mOp2 dMul (mOp2 dIx (mVar 1) (mK (.int 0))) (mOp2 dIx (mVar 0) (mK (.int 1)))))) sNil
noncomputable def fi_l_same : FnI := ⟨["_law_one", "_law_two"], ([] : List D), fnSem 2 c_l_same⟩
noncomputable def c_l_some : MS := sSeq (sIf (tOrM (tBl (mOp2 dIs (mVar 0) (mK .non))) (tBl (mOp2 dIs (mVar 1) (mK .non)))) (sSeq (sRet (mK (.bl true))) sNil) sNil) (sSeq (sRet (mOr (mCallF fi_l_below 2 [] [mVar 0, mVar 1] []) (mAnd (mCallF fi_l_same 2 [] [mVar 0, mVar 1] []) (mAnd (mVar 2) (mVar 3))))) sNil)
noncomputable def fi_l_some : FnI := ⟨["_law_a", "_law_b", "_law_ia", "_law_ib"], ([] : List D), fnSem 4 c_l_some⟩
noncomputable def c_l_ends_of : MS := sSeq (sPar3 1 2 3 [(false, mCallF fi_l_take 2 [] [mVar 0, mK (.int 8)] []), (false, mCallF fi_l_end_of 1 [] [mVar 0] []), (false, mCallF fi_l_end_of 1 [] [mVar 0] [])]) (sSeq (sPar2 4 5 [(false, mOp2 dEq (mCallF fi_l_take 2 [] [mVar 0, mK (.int 2)] []) (mK (.int 0))), (false, mOp2 dEq (mCallF fi_l_take 2 [] [mVar 0, mK (.int 2)] []) (mK (.int 0)))]) (sSeq (sIf (tBl (mOp2 dEq (mVar 1) (mK (.int 0)))) (sSeq (sAsg (gNm 2 false) (mK .non)) sNil) sNil) (sSeq (sIf (tBl (mOp2 dEq (mVar 1) (mK (.int 1)))) (sSeq (sAsg (gNm 3 false) (mK .non)) sNil) sNil) (sSeq (sIf (tBl (mOp2 dEq (mVar 1) (mK (.int 2)))) (sSeq (sAsg (gTu [gNm 2 false, gNm 3 false]) (mTup [mK .non, mK .non])) sNil) sNil) (sSeq (sIf (tBl (mOp2 dEq (mVar 1) (mK (.int 3)))) (sSeq (sPar2 2 3 [(false, mVar 3), (false, mVar 3)]) sNil) sNil) (sSeq (sIf (tNotM (tBl (mCallF fi_l_some 4 [] [mVar 2, mVar 3, mVar 4, mVar 5] []))) (sSeq (sAsg (gTu [gNm 2 false, gNm 3 false, gNm 4 false, gNm 5 false]) (mTup [mVar 3, mVar 2, mK (.bl true), mK (.bl true)])) sNil) sNil) (sSeq (sRet (mTup [mVar 2, mVar 3, mVar 4, mVar 5])) sNil)))))))
noncomputable def fi_l_ends_of : FnI := ⟨["_law_hand"], ([] : List D), fnSem 6 c_l_ends_of⟩
noncomputable def c_l_pair_of : MS := sSeq (sPar3 1 2 3 [(false, mCallF fi_l_take 2 [] [mVar 0, mK (.int 6)] []), (false, mCallF fi_l_ends_of 1 [] [mVar 0] []), (false, mCallF fi_l_ends_of 1 [] [mVar 0] [])]) (sSeq (sIf (tBl (mOp2 dEq (mVar 1) (mK (.int 0)))) (sSeq (sAsg (gNm 3 false) (mTup [mOp2 dIx (mVar 2) (mK (.int 1)), mOp2 dIx (mVar 3) (mK (.int 1)), mOp2 dIx (mVar 3) (mK (.int 2)), mOp2 dIx (mVar 3) (mK (.int 3))])) sNil) sNil) (sSeq (sIf (tBl (mOp2 dEq (mVar 1) (mK (.int 1)))) (sSeq (sAsg (gNm 3 false) (mTup [mOp2 dIx (mVar 3) (mK (.int 0)), mOp2 dIx (mVar 2) (mK (.int 0)), mOp2 dIx (mVar 3) (mK (.int 2)), mOp2 dIx (mVar 3) (mK (.int 3))])) sNil) sNil) (sSeq (sIf (tBl (mOp2 dEq (mVar 1) (mK (.int 2)))) (sSeq (sAsg (gNm 3 false) (mTup [mOp2 dIx (mVar 2) (mK (.int 0)), mOp2 dIx (mVar 3) (mK (.int 1)), mOp2 dIx (mVar 3) (mK (.int 2)), mOp2 dIx (mVar 3) (mK (.int 3))])) sNil) sNil) (sSeq (sIf (tBl (mOp2 dEq (mVar 1) (mK (.int 3)))) (sSeq (sAsg (gNm 3 false) (mTup [mOp2 dIx (mVar 2) (mK (.int 0)), mOp2 dIx (mVar 2) (mK (.int 1)), mOp2 dIx (mVar 3) (mK (.int 2)), mOp2 dIx (mVar 3) (mK (.int 3))])) sNil) sNil) (sSeq (sIf (tNotM (tBl (mCallF fi_l_some 4 [] [mOp2 dIx (mVar 3) (mK (.int 0)), mOp2 dIx (mVar 3) (mK (.int 1)), mOp2 dIx (mVar 3) (mK (.int 2)), mOp2 dIx (mVar 3) (mK (.int 3))] []))) (sSeq (sAsg (gNm 3 false) (mTup [mOp2 dIx (mVar 3) (mK (.int 1)), mOp2 dIx (mVar 3) (mK (.int 0)), mK (.bl true), mK (.bl true)])) sNil) sNil) (sSeq (sRet (mTup [mVar 2, mVar 3])) sNil))))))
noncomputable def fi_l_pair_of : FnI := ⟨["_law_hand"], ([] : List D), fnSem 4 c_l_pair_of⟩
noncomputable def c_l_cut : MS := sSeq (sPar2 2 3 [(false, mOp2 dIx (mVar 0) (mK (.int 0))), (false, mOp2 dIx (mVar 0) (mK (.int 2)))]) (sSeq (sIf (tOrM (tBl (mOp2 dIs (mVar 2) (mK .non))) (tAndM (tBl (mOp2 dIsNot (mOp2 dIx (mVar 1) (mK (.int 0))) (mK .non))) (tBl (mCallF fi_l_below 2 [] [mVar 2, mOp2 dIx (mVar 1) (mK (.int 0))] [])))) (sSeq (sPar2 2 3 [(false, mOp2 dIx (mVar 1) (mK (.int 0))), (false, mOp2 dIx (mVar 1) (mK (.int 2)))]) sNil) (sSeq (sIf (tAndM (tBl (mOp2 dIsNot (mOp2 dIx (mVar 1) (mK (.int 0))) (mK .non))) (tBl (mCallF fi_l_same 2 [] [mVar 2, mOp2 dIx (mVar 1) (mK (.int 0))] []))) (sSeq (sAsg (gNm 3 false) (mAnd (mVar 3) (mOp2 dIx (mVar 1) (mK (.int 2))))) sNil) sNil) sNil)) (sSeq (sPar2 4 5 [(false, mOp2 dIx (mVar 0) (mK (.int 1))), (false, mOp2 dIx (mVar 0) (mK (.int 3)))]) (sSeq (sIf (tOrM (tBl (mOp2 dIs (mVar 4) (mK .non))) (tAndM (tBl (mOp2 dIsNot (mOp2 dIx (mVar 1) (mK (.int 1))) (mK .non))) (tBl (mCallF fi_l_below 2 [] [mOp2 dIx (mVar 1) (mK (.int 1)), mVar 4] [])))) (sSeq (sPar2 4 5 [(false, mOp2 dIx (mVar 1) (mK (.int 1))), (false, mOp2 dIx (mVar 1) (mK (.int 3)))]) sNil) (sSeq (sIf (tAndM (tBl (mOp2 dIsNot (mOp2 dIx (mVar 1) (mK (.int 1))) (mK .non))) (tBl (mCallF fi_l_same 2 [] [mVar 4, mOp2 dIx (mVar 1) (mK (.int 1))] []))) (sSeq (sAsg (gNm 5 false) (mAnd (mVar 5) (mOp2 dIx (mVar 1) (mK (.int 3))))) sNil) sNil) sNil)) (sSeq (sRet (mIf (tBl (mCallF fi_l_some 4 [] [mVar 2, mVar 4, mVar 3, mVar 5] [])) (mTup [mVar 2, mVar 4, mVar 3, mVar 5]) (mK .non))) sNil))))
noncomputable def fi_l_cut : FnI := ⟨["_law_one", "_law_two"], ([] : List D), fnSem 6 c_l_cut⟩
noncomputable def c_is_end : MS := sSeq (sRet (mOr (mOp2 dIs (mVar 0) (mK .non)) (mCallB (bIsi nKit nKit subK) [mVar 0, mK (.cls 0)]))) sNil
noncomputable def fi_is_end : FnI := ⟨["thing"], ([] : List D), fnSem 1 c_is_end⟩
noncomputable def c_Measure_is_below : MS := sSeq (sPar2 3 4 [(false, mOp2 dMul (mAttr tFls "top" (mVar 0)) (mAttr tFls "bottom" (mVar 1))), (false, mOp2 dMul (mAttr tFls "top" (mVar 1)) (mAttr tFls "bottom" (mVar 0)))]) (sSeq (sRet (mOr (mOp2 dLt (mVar 3) (mVar 4)) (mAnd (mVar 2) (mOp2 dEq (mVar 3) (mVar 4))))) sNil)
noncomputable def fi_Measure_is_below : FnI := ⟨["self", "other", "alike"], ([.bl false] : List D), fnSem 5 c_Measure_is_below⟩
noncomputable def mt_is_below : Nat → Option FnI
  | 0 => some fi_Measure_is_below
  | _ => none
noncomputable def c_Measure___eq__ : MS := sSeq (sRet (mAnd (mCallB (bIsi nKit nKit subK) [mVar 1, mK (.cls 0)]) (mAnd (mOp2 dEq (mAttr tFls "top" (mVar 0)) (mAttr tFls "top" (mVar 1))) (mOp2 dEq (mAttr tFls "bottom" (mVar 0)) (mAttr tFls "bottom" (mVar 1)))))) sNil
noncomputable def fi_Measure___eq__ : FnI := ⟨["self", "other"], ([] : List D), fnSem 2 c_Measure___eq__⟩
noncomputable def eqm_Measure : Nat → Option FnI
  | 0 => some fi_Measure___eq__
  | _ => none
noncomputable def c_is_some : MS := sSeq (sIf (tOrM (tBl (mOp2 dIs (mVar 0) (mK .non))) (tBl (mOp2 dIs (mVar 1) (mK .non)))) (sSeq (sRet (mK (.bl true))) sNil) sNil) (sSeq (sRet (mOr (mMeth "is_below" mt_is_below 1 [] (mVar 0) [mVar 1] []) (mAnd (mOp2 (dEqO eqm_Measure) (mVar 0) (mVar 1)) (mAnd (mVar 2) (mVar 3))))) sNil)
noncomputable def fi_is_some : FnI := ⟨["low", "high", "low_in", "high_in"], ([] : List D), fnSem 4 c_is_some⟩
noncomputable def c_Stretch___init__ : MS := sSeq (sIf (tOrM (tNotM (tBl (mCallF fi_is_end 1 [] [mVar 1] []))) (tOrM (tNotM (tBl (mCallF fi_is_end 1 [] [mVar 2] []))) (tOrM (tNotM (tBl (mCallB (bIsi nKit nKit subK) [mVar 3, mK (.ty "bool")]))) (tNotM (tBl (mCallB (bIsi nKit nKit subK) [mVar 4, mK (.ty "bool")])))))) (sSeq sNo sNil) sNil) (sSeq (sIf (tNotM (tBl (mCallF fi_is_some 4 [] [mVar 1, mVar 2, mVar 3, mVar 4] []))) (sSeq sNo sNil) sNil) (sSeq (sFldM nCls "low" (mVar 0) (mVar 1)) (sSeq (sFldM nCls "high" (mVar 0) (mVar 2)) (sSeq (sFldM nCls "low_in" (mVar 0) (mAnd (mOp2 dIsNot (mVar 1) (mK .non)) (mVar 3))) (sSeq (sFldM nCls "high_in" (mVar 0) (mAnd (mOp2 dIsNot (mVar 2) (mK .non)) (mVar 4))) sNil)))))
noncomputable def fi_Stretch___init__ : FnI := ⟨["self", "low", "high", "low_in", "high_in"], ([.bl false, .bl true] : List D), fnSem 5 c_Stretch___init__⟩
noncomputable def mk_Stretch : MkI := ⟨1, ["low", "high", "low_in", "high_in"], fi_Stretch___init__⟩
noncomputable def c_is_whole : MS := sSeq (sRet (mAnd (mCallB (bIsi nKit nKit subK) [mVar 0, mK (.ty "int")]) (mOp1 dNot (mCallB (bIsi nKit nKit subK) [mVar 0, mK (.ty "bool")])))) sNil
noncomputable def fi_is_whole : FnI := ⟨["thing"], ([] : List D), fnSem 1 c_is_whole⟩
noncomputable def c_common_part_b1 : MS := sSeq (sPar2 0 1 [(false, mVar 1), (false, mOp2 dMod (mVar 0) (mVar 1))]) sNil
noncomputable def c_common_part : MS := sSeq (sWhile (tBl (mOp2 dGt (mVar 1) (mK (.int 0)))) c_common_part_b1) (sSeq (sRet (mVar 0)) sNil)
noncomputable def fi_common_part : FnI := ⟨["many", "few"], ([] : List D), fnSem 2 c_common_part⟩
noncomputable def c_Measure___init__ : MS := sSeq (sIf (tOrM (tNotM (tBl (mCallF fi_is_whole 1 [] [mVar 1] []))) (tNotM (tBl (mCallF fi_is_whole 1 [] [mVar 2] [])))) (sSeq sNo sNil) sNil) (sSeq (sIf (tBl (mOp2 dEq (mVar 2) (mK (.int 0)))) (sSeq sNo sNil) sNil) (sSeq (sAsg (gNm 3 false) (mCallF fi_common_part 2 [] [mCallB bAbs [mVar 1], mCallB bAbs [mVar 2]] [])) (sSeq (sIf (tBl (mOp2 dLt (mVar 2) (mK (.int 0)))) (sSeq (sAsg (gNm 3 false) (mOp2 dSub (mK (.int 0)) (mVar 3))) sNil) sNil) (sSeq (sFldM nCls "top" (mVar 0) (mOp2 dFdiv (mVar 1) (mVar 3))) (sSeq (sFldM nCls "bottom" (mVar 0) (mOp2 dFdiv (mVar 2) (mVar 3))) sNil)))))
noncomputable def fi_Measure___init__ : FnI := ⟨["self", "top", "bottom"], ([.int 1] : List D), fnSem 4 c_Measure___init__⟩
noncomputable def mk_Measure : MkI := ⟨0, ["top", "bottom"], fi_Measure___init__⟩
noncomputable def c_l_measure : MS := sSeq (sRet (mIf (tBl (mOp2 dIs (mVar 0) (mK .non))) (mK .non) (mMake mk_Measure 2 [] [mOp2 dIx (mVar 0) (mK (.int 0)), mOp2 dIx (mVar 0) (mK (.int 1))] []))) sNil
noncomputable def fi_l_measure : FnI := ⟨["_law_end"], ([] : List D), fnSem 1 c_l_measure⟩
noncomputable def c_l_made : MS := sSeq (sRet (mMake mk_Stretch 4 [] [mCallF fi_l_measure 1 [] [mOp2 dIx (mVar 0) (mK (.int 0))] [], mCallF fi_l_measure 1 [] [mOp2 dIx (mVar 0) (mK (.int 1))] [], mOp2 dIx (mVar 0) (mK (.int 2)), mOp2 dIx (mVar 0) (mK (.int 3))] [])) sNil
noncomputable def fi_l_made : FnI := ⟨["_law_ends"], ([] : List D), fnSem 1 c_l_made⟩
noncomputable def c_later_begin : MS := sSeq (sIf (tOrM (tBl (mOp2 dIs (mAttr tFls "low" (mVar 0)) (mK .non))) (tAndM (tBl (mOp2 dIsNot (mAttr tFls "low" (mVar 1)) (mK .non))) (tBl (mMeth "is_below" mt_is_below 1 [] (mAttr tFls "low" (mVar 0)) [mAttr tFls "low" (mVar 1)] [])))) (sSeq (sRet (mTup [mAttr tFls "low" (mVar 1), mAttr tFls "low_in" (mVar 1)])) sNil) sNil) (sSeq (sIf (tAndM (tBl (mOp2 dIsNot (mAttr tFls "low" (mVar 1)) (mK .non))) (tBl (mOp2 (dEqO eqm_Measure) (mAttr tFls "low" (mVar 0)) (mAttr tFls "low" (mVar 1))))) (sSeq (sRet (mTup [mAttr tFls "low" (mVar 0), mAnd (mAttr tFls "low_in" (mVar 0)) (mAttr tFls "low_in" (mVar 1))])) sNil) sNil) (sSeq (sRet (mTup [mAttr tFls "low" (mVar 0), mAttr tFls "low_in" (mVar 0)])) sNil))
noncomputable def fi_later_begin : FnI := ⟨["here", "there"], ([] : List D), fnSem 2 c_later_begin⟩
noncomputable def c_earlier_end : MS := sSeq (sIf (tOrM (tBl (mOp2 dIs (mAttr tFls "high" (mVar 0)) (mK .non))) (tAndM (tBl (mOp2 dIsNot (mAttr tFls "high" (mVar 1)) (mK .non))) (tBl (mMeth "is_below" mt_is_below 1 [] (mAttr tFls "high" (mVar 1)) [mAttr tFls "high" (mVar 0)] [])))) (sSeq (sRet (mTup [mAttr tFls "high" (mVar 1), mAttr tFls "high_in" (mVar 1)])) sNil) sNil) (sSeq (sIf (tAndM (tBl (mOp2 dIsNot (mAttr tFls "high" (mVar 1)) (mK .non))) (tBl (mOp2 (dEqO eqm_Measure) (mAttr tFls "high" (mVar 0)) (mAttr tFls "high" (mVar 1))))) (sSeq (sRet (mTup [mAttr tFls "high" (mVar 0), mAnd (mAttr tFls "high_in" (mVar 0)) (mAttr tFls "high_in" (mVar 1))])) sNil) sNil) (sSeq (sRet (mTup [mAttr tFls "high" (mVar 0), mAttr tFls "high_in" (mVar 0)])) sNil))
noncomputable def fi_earlier_end : FnI := ⟨["here", "there"], ([] : List D), fnSem 2 c_earlier_end⟩
noncomputable def c_Stretch_cut : MS := sSeq (sAsg (gTu [gNm 2 false, gNm 3 false]) (mCallF fi_later_begin 2 [] [mVar 0, mVar 1] [])) (sSeq (sAsg (gTu [gNm 4 false, gNm 5 false]) (mCallF fi_earlier_end 2 [] [mVar 0, mVar 1] [])) (sSeq (sIf (tNotM (tBl (mCallF fi_is_some 4 [] [mVar 2, mVar 4, mVar 3, mVar 5] []))) (sSeq (sRet (mK .non)) sNil) sNil) (sSeq (sRet (mMake mk_Stretch 4 [] [mVar 2, mVar 4, mVar 3, mVar 5] [])) sNil)))
noncomputable def fi_Stretch_cut : FnI := ⟨["self", "other"], ([] : List D), fnSem 6 c_Stretch_cut⟩
noncomputable def mt_cut : Nat → Option FnI
  | 1 => some fi_Stretch_cut
  | _ => none
noncomputable def c_Stretch_meets : MS := sSeq (sRet (mOp2 dIsNot (mMeth "cut" mt_cut 1 [] (mVar 0) [mVar 1] []) (mK .non))) sNil
noncomputable def fi_Stretch_meets : FnI := ⟨["self", "other"], ([] : List D), fnSem 2 c_Stretch_meets⟩
noncomputable def mt_meets : Nat → Option FnI
  | 1 => some fi_Stretch_meets
  | _ => none
noncomputable def c_nought : MS := sSeq (sRet (mMake mk_Measure 1 [] [mK (.int 0)] [])) sNil
noncomputable def fi_nought : FnI := ⟨[], ([] : List D), fnSem 0 c_nought⟩
noncomputable def c_unit : MS := sSeq (sRet (mMake mk_Measure 1 [] [mK (.int 1)] [])) sNil
noncomputable def fi_unit : FnI := ⟨[], ([] : List D), fnSem 0 c_unit⟩
noncomputable def c_Measure_minus : MS := sSeq (sRet (mMake mk_Measure 2 [] [mOp2 dSub (mOp2 dMul (mAttr tFls "top" (mVar 0)) (mAttr tFls "bottom" (mVar 1))) (mOp2 dMul (mAttr tFls "top" (mVar 1)) (mAttr tFls "bottom" (mVar 0))), mOp2 dMul (mAttr tFls "bottom" (mVar 0)) (mAttr tFls "bottom" (mVar 1))] [])) sNil
noncomputable def fi_Measure_minus : FnI := ⟨["self", "other"], ([] : List D), fnSem 2 c_Measure_minus⟩
noncomputable def mt_minus : Nat → Option FnI
  | 0 => some fi_Measure_minus
  | _ => none
noncomputable def c_Measure_plus : MS := sSeq (sRet (mMake mk_Measure 2 [] [mOp2 dAdd (mOp2 dMul (mAttr tFls "top" (mVar 0)) (mAttr tFls "bottom" (mVar 1))) (mOp2 dMul (mAttr tFls "top" (mVar 1)) (mAttr tFls "bottom" (mVar 0))), mOp2 dMul (mAttr tFls "bottom" (mVar 0)) (mAttr tFls "bottom" (mVar 1))] [])) sNil
noncomputable def fi_Measure_plus : FnI := ⟨["self", "other"], ([] : List D), fnSem 2 c_Measure_plus⟩
noncomputable def mt_plus : Nat → Option FnI
  | 0 => some fi_Measure_plus
  | _ => none
noncomputable def c_Measure_parted : MS := sSeq (sRet (mMake mk_Measure 2 [] [mAttr tFls "top" (mVar 0), mOp2 dMul (mAttr tFls "bottom" (mVar 0)) (mVar 1)] [])) sNil
noncomputable def fi_Measure_parted : FnI := ⟨["self", "many"], ([.int 2] : List D), fnSem 2 c_Measure_parted⟩
noncomputable def mt_parted : Nat → Option FnI
  | 0 => some fi_Measure_parted
  | _ => none
noncomputable def c_midst : MS := sSeq (sRet (mMeth "parted" mt_parted 0 [] (mMeth "plus" mt_plus 1 [] (mVar 0) [mVar 1] []) [] [])) sNil
noncomputable def fi_midst : FnI := ⟨["here", "there"], ([] : List D), fnSem 2 c_midst⟩
noncomputable def c_inner : MS := sSeq (sIf (tAndM (tBl (mOp2 dIs (mAttr tFls "low" (mVar 0)) (mK .non))) (tBl (mOp2 dIs (mAttr tFls "high" (mVar 0)) (mK .non)))) (sSeq (sRet (mCallF fi_nought 0 [] [] [])) sNil) sNil) (sSeq (sIf (tBl (mOp2 dIs (mAttr tFls "low" (mVar 0)) (mK .non))) (sSeq (sRet (mMeth "minus" mt_minus 1 [] (mAttr tFls "high" (mVar 0)) [mCallF fi_unit 0 [] [] []] [])) sNil) sNil) (sSeq (sIf (tBl (mOp2 dIs (mAttr tFls "high" (mVar 0)) (mK .non))) (sSeq (sRet (mMeth "plus" mt_plus 1 [] (mAttr tFls "low" (mVar 0)) [mCallF fi_unit 0 [] [] []] [])) sNil) sNil) (sSeq (sRet (mCallF fi_midst 2 [] [mAttr tFls "low" (mVar 0), mAttr tFls "high" (mVar 0)] [])) sNil)))
noncomputable def fi_inner : FnI := ⟨["stretch"], ([] : List D), fnSem 1 c_inner⟩
noncomputable def c_Stretch_shared : MS := sSeq (sAsg (gNm 2 false) (mMeth "cut" mt_cut 1 [] (mVar 0) [mVar 1] [])) (sSeq (sRet (mIf (tBl (mOp2 dIs (mVar 2) (mK .non))) (mK .non) (mCallF fi_inner 1 [] [mVar 2] []))) sNil)
noncomputable def fi_Stretch_shared : FnI := ⟨["self", "other"], ([] : List D), fnSem 3 c_Stretch_shared⟩
noncomputable def mt_shared : Nat → Option FnI
  | 1 => some fi_Stretch_shared
  | _ => none
noncomputable def c_l_in : MS := sSeq (sAsg (gTu [gNm 2 false, gNm 3 false, gNm 4 false, gNm 5 false]) (mVar 0)) (sSeq (sIf (tAndM (tBl (mOp2 dIsNot (mVar 2) (mK .non))) (tAndM (tNotM (tBl (mCallF fi_l_below 2 [] [mVar 2, mVar 1] []))) (tNotM (tAndM (tBl (mVar 4)) (tBl (mCallF fi_l_same 2 [] [mVar 2, mVar 1] [])))))) (sSeq (sRet (mK (.bl false))) sNil) sNil) (sSeq (sRet (mOr (mOp2 dIs (mVar 3) (mK .non)) (mOr (mCallF fi_l_below 2 [] [mVar 1, mVar 3] []) (mAnd (mVar 5) (mCallF fi_l_same 2 [] [mVar 1, mVar 3] []))))) sNil))
noncomputable def fi_l_in : FnI := ⟨["_law_ends", "_law_point"], ([] : List D), fnSem 6 c_l_in⟩
noncomputable def c_l_shared_right : MS := sSeq (sIf (tNotM (tBl (mVar 3))) (sSeq (sRet (mOp2 dIs (mVar 0) (mK .non))) sNil) sNil) (sSeq (sIf (tOrM (tNotM (tBl (mCallB (bIsi nKit nKit subK) [mVar 0, mK (.cls 0)]))) (tBl (mOp2 dLt (mAttr tFls "bottom" (mVar 0)) (mK (.int 1))))) (sSeq (sRet (mK (.bl false))) sNil) sNil) (sSeq (sRet (mAnd (mCallF fi_l_in 2 [] [mVar 1, mTup [mAttr tFls "top" (mVar 0), mAttr tFls "bottom" (mVar 0)]] []) (mCallF fi_l_in 2 [] [mVar 2, mTup [mAttr tFls "top" (mVar 0), mAttr tFls "bottom" (mVar 0)]] []))) sNil))
noncomputable def fi_l_shared_right : FnI := ⟨["_law_found", "_law_one", "_law_two", "_law_due"], ([] : List D), fnSem 4 c_l_shared_right⟩
noncomputable def c_law_b1 : MS := sSeq (sAsg (gNm 2 true) (mCallF fi_l_hand_of 2 [] [mVar 0, mVar 1] [])) (sSeq (sAsg (gTu [gNm 3 false, gNm 4 false]) (mCallF fi_l_pair_of 1 [] [mVar 2] [])) (sSeq (sAsg (gTu [gNm 5 false, gNm 6 false, gNm 7 false]) (mTup [mOp2 dIsNot (mCallF fi_l_cut 2 [] [mVar 3, mVar 4] []) (mK .non), mCallF fi_l_made 1 [] [mVar 3] [], mCallF fi_l_made 1 [] [mVar 4] []])) (sSeq (sIf (tBl (mOp2 dNe (mList [mMeth "meets" mt_meets 1 [] (mVar 6) [mVar 7] [], mMeth "meets" mt_meets 1 [] (mVar 7) [mVar 6] [], mMeth "meets" mt_meets 0 ["other"] (mVar 6) [] [mVar 7]]) (mOp2 dMul (mList [mVar 5]) (mK (.int 3))))) (sSeq (sRet (mK (.bl false))) sNil) sNil) (sSeq (sIf (tOrM (tNotM (tBl (mCallB (bIsi nKit nKit subK) [mMeth "meets" mt_meets 1 [] (mVar 6) [mVar 7] [], mK (.ty "bool")]))) (tBl (mOp2 dIsNotB (mMeth "meets" mt_meets 1 [] (mVar 6) [mVar 6] []) (mK (.bl true))))) (sSeq (sRet (mK (.bl false))) sNil) sNil) (sSeq (sAsg (gNm 8 false) (mList [mMeth "shared" mt_shared 1 [] (mVar 6) [mVar 7] [], mMeth "shared" mt_shared 0 ["other"] (mVar 7) [] [mVar 6]])) (sSeq (sIf (tNotM (tBl (mCallB bAll [mComp (iVal (mVar 8)) (gNm 9 false) tTrue (mCallF fi_l_shared_right 4 [] [mVar 9, mVar 3, mVar 4, mVar 5] []) [9]]))) (sSeq (sRet (mK (.bl false))) sNil) sNil) (sSeq (sIf (tNotM (tBl (mCallF fi_l_shared_right 4 [] [mMeth "shared" mt_shared 1 [] (mVar 7) [mVar 7] [], mVar 4, mVar 4, mK (.bl true)] []))) (sSeq (sRet (mK (.bl false))) sNil) sNil) sNil)))))))
noncomputable def c_law : MS := sSeq (sFor (iRange1 (mOp2 dAdd (mK (.int 2)) (mCallB bMin [mK (.int 12), mCallB bLen [mVar 0]]))) (gNm 1 false) c_law_b1) (sSeq (sRet (mK (.bl true))) sNil)
noncomputable def fi_law : FnI := ⟨["_law_script"], ([] : List D), fnSem 10 c_law⟩
end Law

set_option Elab.async false
set_option linter.all false
set_option maxRecDepth 100000
set_option maxHeartbeats 4000000
/-! the walk -/
namespace Law
open PySem PySem.Spec L2 Sz
abbrev top (i : Nat) : Stmt := PySem.Challenge.pw_sizeladders_k10_whether_two_meet.main.body.getD i (.Pass ⟨0, 0, 0, 0⟩)
abbrev st_l_hand_of : Stmt := top 22
def d_l_hand_of : He.DefD := ⟨("_law_hand_of", none), "_law_hand_of", "_law_hand_of", defArgs st_l_hand_of, defBody st_l_hand_of, defScope st_l_hand_of, ([] : List D).map dvOf, []⟩
abbrev st_l_take : Stmt := top 23
def d_l_take : He.DefD := ⟨("_law_take", none), "_law_take", "_law_take", defArgs st_l_take, defBody st_l_take, defScope st_l_take, ([] : List D).map dvOf, []⟩
abbrev st_l_end_of : Stmt := top 24
def d_l_end_of : He.DefD := ⟨("_law_end_of", none), "_law_end_of", "_law_end_of", defArgs st_l_end_of, defBody st_l_end_of, defScope st_l_end_of, ([] : List D).map dvOf, []⟩
abbrev st_l_below : Stmt := top 25
def d_l_below : He.DefD := ⟨("_law_below", none), "_law_below", "_law_below", defArgs st_l_below, defBody st_l_below, defScope st_l_below, ([] : List D).map dvOf, []⟩
abbrev st_l_same : Stmt := top 26
def d_l_same : He.DefD := ⟨("_law_same", none), "_law_same", "_law_same", defArgs st_l_same, defBody st_l_same, defScope st_l_same, ([] : List D).map dvOf, []⟩
abbrev st_l_some : Stmt := top 28
def d_l_some : He.DefD := ⟨("_law_some", none), "_law_some", "_law_some", defArgs st_l_some, defBody st_l_some, defScope st_l_some, ([] : List D).map dvOf, []⟩
abbrev st_l_ends_of : Stmt := top 29
def d_l_ends_of : He.DefD := ⟨("_law_ends_of", none), "_law_ends_of", "_law_ends_of", defArgs st_l_ends_of, defBody st_l_ends_of, defScope st_l_ends_of, ([] : List D).map dvOf, []⟩
abbrev st_l_pair_of : Stmt := top 33
def d_l_pair_of : He.DefD := ⟨("_law_pair_of", none), "_law_pair_of", "_law_pair_of", defArgs st_l_pair_of, defBody st_l_pair_of, defScope st_l_pair_of, ([] : List D).map dvOf, []⟩
abbrev st_l_cut : Stmt := top 32
def d_l_cut : He.DefD := ⟨("_law_cut", none), "_law_cut", "_law_cut", defArgs st_l_cut, defBody st_l_cut, defScope st_l_cut, ([] : List D).map dvOf, []⟩
abbrev st_is_end : Stmt := top 14
def d_is_end : He.DefD := ⟨("is_end", none), "is_end", "is_end", defArgs st_is_end, defBody st_is_end, defScope st_is_end, ([] : List D).map dvOf, []⟩
abbrev st_Measure_is_below : Stmt := inClass (top 9) 8
def d_Measure_is_below : He.DefD := ⟨("Measure", some "is_below"), "is_below", "Measure.is_below", defArgs st_Measure_is_below, defBody st_Measure_is_below, defScope st_Measure_is_below, ([.bl false] : List D).map dvOf, []⟩
abbrev st_Measure___eq__ : Stmt := inClass (top 9) 1
def d_Measure___eq__ : He.DefD := ⟨("Measure", some "__eq__"), "__eq__", "Measure.__eq__", defArgs st_Measure___eq__, defBody st_Measure___eq__, defScope st_Measure___eq__, ([] : List D).map dvOf, []⟩
abbrev st_is_some : Stmt := top 15
def d_is_some : He.DefD := ⟨("is_some", none), "is_some", "is_some", defArgs st_is_some, defBody st_is_some, defScope st_is_some, ([] : List D).map dvOf, []⟩
abbrev st_Stretch___init__ : Stmt := inClass (top 17) 0
def d_Stretch___init__ : He.DefD := ⟨("Stretch", some "__init__"), "__init__", "Stretch.__init__", defArgs st_Stretch___init__, defBody st_Stretch___init__, defScope st_Stretch___init__, ([.bl false, .bl true] : List D).map dvOf, []⟩
abbrev st_is_whole : Stmt := top 7
def d_is_whole : He.DefD := ⟨("is_whole", none), "is_whole", "is_whole", defArgs st_is_whole, defBody st_is_whole, defScope st_is_whole, ([] : List D).map dvOf, []⟩
abbrev st_common_part : Stmt := top 8
def d_common_part : He.DefD := ⟨("common_part", none), "common_part", "common_part", defArgs st_common_part, defBody st_common_part, defScope st_common_part, ([] : List D).map dvOf, []⟩
abbrev st_Measure___init__ : Stmt := inClass (top 9) 0
def d_Measure___init__ : He.DefD := ⟨("Measure", some "__init__"), "__init__", "Measure.__init__", defArgs st_Measure___init__, defBody st_Measure___init__, defScope st_Measure___init__, ([.int 1] : List D).map dvOf, []⟩
abbrev st_l_measure : Stmt := top 27
def d_l_measure : He.DefD := ⟨("_law_measure", none), "_law_measure", "_law_measure", defArgs st_l_measure, defBody st_l_measure, defScope st_l_measure, ([] : List D).map dvOf, []⟩
abbrev st_l_made : Stmt := top 30
def d_l_made : He.DefD := ⟨("_law_made", none), "_law_made", "_law_made", defArgs st_l_made, defBody st_l_made, defScope st_l_made, ([] : List D).map dvOf, []⟩
abbrev st_later_begin : Stmt := top 18
def d_later_begin : He.DefD := ⟨("later_begin", none), "later_begin", "later_begin", defArgs st_later_begin, defBody st_later_begin, defScope st_later_begin, ([] : List D).map dvOf, []⟩
abbrev st_earlier_end : Stmt := top 19
def d_earlier_end : He.DefD := ⟨("earlier_end", none), "earlier_end", "earlier_end", defArgs st_earlier_end, defBody st_earlier_end, defScope st_earlier_end, ([] : List D).map dvOf, []⟩
abbrev st_Stretch_cut : Stmt := inClass (top 17) 7
def d_Stretch_cut : He.DefD := ⟨("Stretch", some "cut"), "cut", "Stretch.cut", defArgs st_Stretch_cut, defBody st_Stretch_cut, defScope st_Stretch_cut, ([] : List D).map dvOf, []⟩
abbrev st_Stretch_meets : Stmt := inClass (top 17) 5
def d_Stretch_meets : He.DefD := ⟨("Stretch", some "meets"), "meets", "Stretch.meets", defArgs st_Stretch_meets, defBody st_Stretch_meets, defScope st_Stretch_meets, ([] : List D).map dvOf, []⟩
abbrev st_nought : Stmt := top 10
def d_nought : He.DefD := ⟨("nought", none), "nought", "nought", defArgs st_nought, defBody st_nought, defScope st_nought, ([] : List D).map dvOf, []⟩
abbrev st_unit : Stmt := top 11
def d_unit : He.DefD := ⟨("unit", none), "unit", "unit", defArgs st_unit, defBody st_unit, defScope st_unit, ([] : List D).map dvOf, []⟩
abbrev st_Measure_minus : Stmt := inClass (top 9) 5
def d_Measure_minus : He.DefD := ⟨("Measure", some "minus"), "minus", "Measure.minus", defArgs st_Measure_minus, defBody st_Measure_minus, defScope st_Measure_minus, ([] : List D).map dvOf, []⟩
abbrev st_Measure_plus : Stmt := inClass (top 9) 4
def d_Measure_plus : He.DefD := ⟨("Measure", some "plus"), "plus", "Measure.plus", defArgs st_Measure_plus, defBody st_Measure_plus, defScope st_Measure_plus, ([] : List D).map dvOf, []⟩
abbrev st_Measure_parted : Stmt := inClass (top 9) 7
def d_Measure_parted : He.DefD := ⟨("Measure", some "parted"), "parted", "Measure.parted", defArgs st_Measure_parted, defBody st_Measure_parted, defScope st_Measure_parted, ([.int 2] : List D).map dvOf, []⟩
abbrev st_midst : Stmt := top 12
def d_midst : He.DefD := ⟨("midst", none), "midst", "midst", defArgs st_midst, defBody st_midst, defScope st_midst, ([] : List D).map dvOf, []⟩
abbrev st_inner : Stmt := top 20
def d_inner : He.DefD := ⟨("inner", none), "inner", "inner", defArgs st_inner, defBody st_inner, defScope st_inner, ([] : List D).map dvOf, []⟩
abbrev st_Stretch_shared : Stmt := inClass (top 17) 6
def d_Stretch_shared : He.DefD := ⟨("Stretch", some "shared"), "shared", "Stretch.shared", defArgs st_Stretch_shared, defBody st_Stretch_shared, defScope st_Stretch_shared, ([] : List D).map dvOf, []⟩
abbrev st_l_in : Stmt := top 31
def d_l_in : He.DefD := ⟨("_law_in", none), "_law_in", "_law_in", defArgs st_l_in, defBody st_l_in, defScope st_l_in, ([] : List D).map dvOf, []⟩
abbrev st_l_shared_right : Stmt := top 34
def d_l_shared_right : He.DefD := ⟨("_law_shared_right", none), "_law_shared_right", "_law_shared_right", defArgs st_l_shared_right, defBody st_l_shared_right, defScope st_l_shared_right, ([] : List D).map dvOf, []⟩
abbrev st_law : Stmt := top 35
def d_law : He.DefD := ⟨("law", none), "law", "law", defArgs st_law, defBody st_law, defScope st_law, ([] : List D).map dvOf, []⟩
def tDefs : List He.DefD := [d_l_hand_of, d_l_take, d_l_end_of, d_l_below, d_l_same, d_l_some, d_l_ends_of, d_l_pair_of, d_l_cut, d_is_end, d_Measure_is_below, d_Measure___eq__, d_is_some, d_Stretch___init__, d_is_whole, d_common_part, d_Measure___init__, d_l_measure, d_l_made, d_later_begin, d_earlier_end, d_Stretch_cut, d_Stretch_meets, d_nought, d_unit, d_Measure_minus, d_Measure_plus, d_Measure_parted, d_midst, d_inner, d_Stretch_shared, d_l_in, d_l_shared_right, d_law]
def tFrees : List Str := ["range", "len", "min", "int", "isinstance", "bool", "abs", "all"]
def tGlobs : List Str := ["_law_hand_of", "_law_take", "_law_end_of", "_law_below", "_law_same", "_law_some", "_law_ends_of", "_law_pair_of", "_law_cut", "Measure", "is_end", "is_some", "is_whole", "common_part", "_law_measure", "Stretch", "_law_made", "later_begin", "earlier_end", "nought", "unit", "midst", "inner", "_law_in", "_law_shared_right", "law"]
def tRest : List He.Fa := [.cls "Measure", .cls "Stretch", .mkr "Measure", .mkr "Stretch", .noat "Measure" "top", .noat "Stretch" "top", .noat "Measure" "bottom", .noat "Stretch" "bottom", .noat "Measure" "low", .noat "Stretch" "low", .noat "Measure" "high", .noat "Stretch" "high", .noat "Measure" "low_in", .noat "Stretch" "low_in", .noat "Measure" "high_in", .noat "Stretch" "high_in", .meth "Measure" "is_below", .meth "Measure" "__eq__", .meth "Stretch" "cut", .meth "Stretch" "meets", .meth "Measure" "minus", .meth "Measure" "plus", .meth "Measure" "parted", .meth "Stretch" "shared"]
def tNfs : List (Str × Str) := [("Measure", "Measure")]
def tChk (K : PySem.W.Frag) : Bool := kitB tCls nKit nKit subK K && tNfs.all fun p => PySem.W.notFirst K (He.ga K p.1) (.ref (He.ga K p.2))
abbrev Says (K : PySem.W.Frag) : Prop := SaysZ tChk (faOf tFrees tGlobs tRest) tDefs K
abbrev gq (K : PySem.W.Frag) : G := gOf tCls tFls K
theorem mkr_Measure {K : PySem.W.Frag} (S : Says K) : Mk (gq K).K ((gq K).cad 0) (He.ma K (He.ga K "Measure") "__init__") := He.mkr_ok (rest_ok S.says 2 rfl)
theorem mkr_Stretch {K : PySem.W.Frag} (S : Says K) : Mk (gq K).K ((gq K).cad 1) (He.ma K (He.ga K "Stretch") "__init__") := He.mkr_ok (rest_ok S.says 3 rfl)
theorem no_top {K : PySem.W.Frag} (S : Says K) : ∀ c, c < tFls.length → NoAttr (gq K).K ((gq K).cad c) "top"
  | 0, _ => He.noat_ok (rest_ok S.says 4 rfl)
  | 1, _ => He.noat_ok (rest_ok S.says 5 rfl)
  | n + 2, h => absurd (show n + 2 < 2 from h) (by omega)
theorem no_bottom {K : PySem.W.Frag} (S : Says K) : ∀ c, c < tFls.length → NoAttr (gq K).K ((gq K).cad c) "bottom"
  | 0, _ => He.noat_ok (rest_ok S.says 6 rfl)
  | 1, _ => He.noat_ok (rest_ok S.says 7 rfl)
  | n + 2, h => absurd (show n + 2 < 2 from h) (by omega)
theorem no_low {K : PySem.W.Frag} (S : Says K) : ∀ c, c < tFls.length → NoAttr (gq K).K ((gq K).cad c) "low"
  | 0, _ => He.noat_ok (rest_ok S.says 8 rfl)
  | 1, _ => He.noat_ok (rest_ok S.says 9 rfl)
  | n + 2, h => absurd (show n + 2 < 2 from h) (by omega)
theorem no_high {K : PySem.W.Frag} (S : Says K) : ∀ c, c < tFls.length → NoAttr (gq K).K ((gq K).cad c) "high"
  | 0, _ => He.noat_ok (rest_ok S.says 10 rfl)
  | 1, _ => He.noat_ok (rest_ok S.says 11 rfl)
  | n + 2, h => absurd (show n + 2 < 2 from h) (by omega)
theorem no_low_in {K : PySem.W.Frag} (S : Says K) : ∀ c, c < tFls.length → NoAttr (gq K).K ((gq K).cad c) "low_in"
  | 0, _ => He.noat_ok (rest_ok S.says 12 rfl)
  | 1, _ => He.noat_ok (rest_ok S.says 13 rfl)
  | n + 2, h => absurd (show n + 2 < 2 from h) (by omega)
theorem no_high_in {K : PySem.W.Frag} (S : Says K) : ∀ c, c < tFls.length → NoAttr (gq K).K ((gq K).cad c) "high_in"
  | 0, _ => He.noat_ok (rest_ok S.says 14 rfl)
  | 1, _ => He.noat_ok (rest_ok S.says 15 rfl)
  | n + 2, h => absurd (show n + 2 < 2 from h) (by omega)
theorem cls_all {K : PySem.W.Frag} (S : Says K) : ∀ c, c < tFls.length → Cls (gq K).K ((gq K).cad c)
  | 0, _ => He.cls_ok (rest_ok S.says 0 rfl)
  | 1, _ => He.cls_ok (rest_ok S.says 1 rfl)
  | n + 2, h => absurd (show n + 2 < 2 from h) (by omega)
theorem no_all {K : PySem.W.Frag} (S : Says K) : ∀ (c : Nat) (l : List Str) (f : Str), tFls[c]? = some l → f ∈ l → NoAttr (gq K).K ((gq K).cad c) f
  | 0, l, f, h, hf => by
    have e : l = (["top", "bottom"] : List Str) := (Option.some.inj h).symm
    subst e
    simp only [List.mem_cons, List.not_mem_nil, or_false] at hf
    rcases hf with rfl | rfl
    · exact no_top S 0 (by decide)
    · exact no_bottom S 0 (by decide)

  | 1, l, f, h, hf => by
    have e : l = (["low", "high", "low_in", "high_in"] : List Str) := (Option.some.inj h).symm
    subst e
    simp only [List.mem_cons, List.not_mem_nil, or_false] at hf
    rcases hf with rfl | rfl | rfl | rfl
    · exact no_low S 1 (by decide)
    · exact no_high S 1 (by decide)
    · exact no_low_in S 1 (by decide)
    · exact no_high_in S 1 (by decide)

  | n + 2, l, f, h, hf => by cases h
theorem fldF {K : PySem.W.Frag} (S : Says K) : FldF (gq K) tFls := ⟨fun c l h => by show tFls.getD c [] = l; rw [List.getD_eq_getElem?_getD, h]; rfl, cls_all S, no_all S⟩
theorem kitF {K : PySem.W.Frag} (S : Says K) : KitF (gq K) nKit nKit subK := kitB_ok (He.ba S.chk).1
theorem eqf_Measure {K : PySem.W.Frag} (S : Says K) : PySem.W.findIn (gq K).K (.ref ((gq K).cad 0)) "__eq__" = some (some (.ref (He.ma K (He.ga K "Measure") "__eq__"))) := (He.meth_ok (rest_ok S.says 17 rfl)).at_
theorem nfB_Measure_Measure {K : PySem.W.Frag} (S : Says K) : PySem.W.notFirst (gq K).K ((gq K).cad 0) (.ref ((gq K).cad 0)) = true := (List.all_eq_true.mp (He.ba S.chk).2 ("Measure", "Measure") (by decide))
section
variable {P : Program} {w : World} {mg : Str → Option Value} {base : Heap} {K : PySem.W.Frag}
abbrev sh_l_hand_of : List (Nat × List Str) := [(2, [])]
abbrev N_l_hand_of : List Str := ["_law_script", "_law_k", "_law_cell", "_law_seed"]
theorem fs_l_hand_of : FnScope N_l_hand_of ["_law_script", "_law_k"] (defScope st_l_hand_of) := ⟨rfl, rfl, rfl, by decide +kernel, rfl, by decide +kernel, by decide +kernel⟩
theorem b_l_hand_of (T : Tb (gq K) mg tFrees tGlobs) (S : Says K) : ∀ X W, Ct (gq K) P w mg base 0 N_l_hand_of (defScope st_l_hand_of) true X W → SB (gq K) X W (defBody st_l_hand_of) c_l_hand_of := fun X W c =>
  sb_cons (c.set rfl rfl se_int) (sb_cons (ss_if (st_cmp ok_lt (c.var rfl) (c.callB T (co_len c.K) rfl rfl rfl rfl (sa_cons rfl (c.var rfl) sa_nil)) rfl) (sb_cons (c.set rfl rfl (se_ix c.K (c.var rfl) (c.var rfl) rfl)) sb_nil) sb_nil) (sb_cons (c.set rfl rfl (se_bin ok_mod (se_bin (ok_add c.K) (se_bin (ok_add c.K) (se_bin ok_mod (c.var rfl) se_int) (se_bin ok_mul se_int (c.var rfl))) se_int) se_int)) (sb_cons (ss_ret (se_lst (sa_cons rfl (se_bin ok_mul (c.var rfl) (c.callTy T co_int rfl rfl rfl rfl (sa_cons rfl (se_cmp ok_ge (c.var rfl) (se_bin ok_pow se_int se_int) rfl) sa_nil))) (sa_cons rfl (c.var rfl) (sa_cons rfl se_int sa_nil))))) sb_nil)))
theorem ok_l_hand_of (T : Tb (gq K) mg tFrees tGlobs) (S : Says K) : FnC (gq K) P w mg base fi_l_hand_of 1 (He.ga K "_law_hand_of") sh_l_hand_of :=
  FnC.of (dfl := ([] : List D)) (S.says.def_ 0 (d := d_l_hand_of) rfl) rfl fs_l_hand_of (b_l_hand_of T S) (fun fd F => ⟨bnd0 F (fun _ _ _ _ _ _ us ws hu hw => match us, ws, hu, hw with | [_, _], [], _, _ => ⟨_, rfl, rfl⟩), trivial⟩)
abbrev sh_l_take : List (Nat × List Str) := [(2, [])]
abbrev N_l_take : List Str := ["_law_hand", "_law_many", "_law_digit", "_law_stirred"]
theorem fs_l_take : FnScope N_l_take ["_law_hand", "_law_many"] (defScope st_l_take) := ⟨rfl, rfl, rfl, by decide +kernel, rfl, by decide +kernel, by decide +kernel⟩
theorem b_l_take (T : Tb (gq K) mg tFrees tGlobs) (S : Says K) : ∀ X W, Ct (gq K) P w mg base 0 N_l_take (defScope st_l_take) true X W → SB (gq K) X W (defBody st_l_take) c_l_take := fun X W c =>
  sb_cons (ss_if (st_cmp ok_gt (se_ix c.K (c.var rfl) se_int rfl) se_int rfl) (sb_cons (c.set rfl rfl (se_bin ok_mod (se_ix c.K (c.var rfl) se_int rfl) (c.var rfl))) (sb_cons (c.subS rfl (c.var rfl) se_int rfl (se_bin ok_fdiv (se_ix c.K (c.var rfl) se_int rfl) (c.var rfl))) (sb_cons (ss_ret (c.var rfl)) sb_nil))) sb_nil) (sb_cons (c.subS rfl (c.var rfl) se_int rfl (se_bin (ok_add c.K) (se_ix c.K (c.var rfl) se_int rfl) se_int)) (sb_cons (c.set rfl rfl (se_bin ok_mod (se_bin ok_pow (se_bin (ok_add c.K) (se_bin (ok_add c.K) (se_ix c.K (c.var rfl) se_int rfl) (se_bin ok_mul (se_bin ok_mul se_int (se_ix c.K (c.var rfl) se_int rfl)) (se_ix c.K (c.var rfl) se_int rfl))) se_int) se_int) se_int)) (sb_cons (c.set rfl rfl (se_bin ok_mod (se_bin ok_mul (c.var rfl) (se_bin (ok_add c.K) (se_bin ok_mod (c.var rfl) se_int) (se_bin ok_mul se_int (se_ix c.K (c.var rfl) se_int rfl)))) se_int)) (sb_cons (ss_ret (se_bin ok_mod (se_bin (ok_add c.K) (se_bin ok_fdiv (c.var rfl) se_int) (se_bin ok_fdiv (c.var rfl) se_int)) (c.var rfl))) sb_nil))))
theorem ok_l_take (T : Tb (gq K) mg tFrees tGlobs) (S : Says K) : FnC (gq K) P w mg base fi_l_take 1 (He.ga K "_law_take") sh_l_take :=
  FnC.of (dfl := ([] : List D)) (S.says.def_ 1 (d := d_l_take) rfl) rfl fs_l_take (b_l_take T S) (fun fd F => ⟨bnd0 F (fun _ _ _ _ _ _ us ws hu hw => match us, ws, hu, hw with | [_, _], [], _, _ => ⟨_, rfl, rfl⟩), trivial⟩)
abbrev sh_l_end_of : List (Nat × List Str) := [(1, [])]
abbrev N_l_end_of : List Str := ["_law_hand", "_law_bottom"]
theorem fs_l_end_of : FnScope N_l_end_of ["_law_hand"] (defScope st_l_end_of) := ⟨rfl, rfl, rfl, by decide +kernel, rfl, by decide +kernel, by decide +kernel⟩
theorem b_l_end_of (T : Tb (gq K) mg tFrees tGlobs) (S : Says K) : ∀ X W, Ct (gq K) P w mg base 1 N_l_end_of (defScope st_l_end_of) true X W → SB (gq K) X W (defBody st_l_end_of) c_l_end_of := fun X W c =>
  sb_cons (c.set rfl rfl (se_ix c.K (se_lst (sa_cons rfl se_int (sa_cons rfl se_int (sa_cons rfl se_int (sa_cons rfl se_int (sa_cons rfl se_int (sa_cons rfl se_int (sa_cons rfl se_int (sa_cons rfl (se_bin (ok_add c.K) (se_bin ok_pow se_int se_int) se_int) sa_nil))))))))) (c.call T (ok_l_take T S) rfl rfl rfl rfl rfl (.cons rfl (sa_cons rfl (c.var rfl) (sa_cons rfl se_int sa_nil))) sk_nil) rfl)) (sb_cons (ss_ret (se_tup (sa_cons rfl (se_bin (ok_add c.K) (se_bin ok_sub (c.call T (ok_l_take T S) rfl rfl rfl rfl rfl (.cons rfl (sa_cons rfl (c.var rfl) (sa_cons rfl (se_bin ok_mul se_int (c.callB T (co_min c.calm) rfl rfl rfl rfl (sa_cons rfl (c.var rfl) (sa_cons rfl se_int sa_nil)))) sa_nil))) sk_nil) se_int) (se_bin ok_mul (c.var rfl) (se_ix c.K (se_lst (sa_cons rfl se_int (sa_cons rfl se_int (sa_cons rfl se_int (sa_cons rfl (se_bin ok_pow se_int se_int) sa_nil))))) (c.call T (ok_l_take T S) rfl rfl rfl rfl rfl (.cons rfl (sa_cons rfl (c.var rfl) (sa_cons rfl se_int sa_nil))) sk_nil) rfl))) (sa_cons rfl (c.var rfl) sa_nil)))) sb_nil)
theorem ok_l_end_of (T : Tb (gq K) mg tFrees tGlobs) (S : Says K) : FnC (gq K) P w mg base fi_l_end_of 2 (He.ga K "_law_end_of") sh_l_end_of :=
  FnC.of (dfl := ([] : List D)) (S.says.def_ 2 (d := d_l_end_of) rfl) rfl fs_l_end_of (b_l_end_of T S) (fun fd F => ⟨bnd0 F (fun _ _ _ _ _ _ us ws hu hw => match us, ws, hu, hw with | [_], [], _, _ => ⟨_, rfl, rfl⟩), trivial⟩)
abbrev sh_l_below : List (Nat × List Str) := [(2, [])]
abbrev N_l_below : List Str := ["_law_one", "_law_two"]
theorem fs_l_below : FnScope N_l_below ["_law_one", "_law_two"] (defScope st_l_below) := ⟨rfl, rfl, rfl, by decide +kernel, rfl, by decide +kernel, by decide +kernel⟩
theorem b_l_below (T : Tb (gq K) mg tFrees tGlobs) (S : Says K) : ∀ X W, Ct (gq K) P w mg base 0 N_l_below (defScope st_l_below) true X W → SB (gq K) X W (defBody st_l_below) c_l_below := fun X W c =>
  sb_cons (ss_ret (se_cmp ok_lt (se_bin ok_mul (se_ix c.K (c.var rfl) se_int rfl) (se_ix c.K (c.var rfl) se_int rfl)) (se_bin ok_mul (se_ix c.K (c.var rfl) se_int rfl) (se_ix c.K (c.var rfl) se_int rfl)) rfl)) sb_nil
theorem ok_l_below (T : Tb (gq K) mg tFrees tGlobs) (S : Says K) : FnC (gq K) P w mg base fi_l_below 1 (He.ga K "_law_below") sh_l_below :=
  FnC.of (dfl := ([] : List D)) (S.says.def_ 3 (d := d_l_below) rfl) rfl fs_l_below (b_l_below T S) (fun fd F => ⟨bnd0 F (fun _ _ _ _ _ _ us ws hu hw => match us, ws, hu, hw with | [_, _], [], _, _ => ⟨_, rfl, rfl⟩), trivial⟩)
abbrev sh_l_same : List (Nat × List Str) := [(2, [])]
abbrev N_l_same : List Str := ["_law_one", "_law_two"]
theorem fs_l_same : FnScope N_l_same ["_law_one", "_law_two"] (defScope st_l_same) := ⟨rfl, rfl, rfl, by decide +kernel, rfl, by decide +kernel, by decide +kernel⟩
theorem b_l_same (T : Tb (gq K) mg tFrees tGlobs) (S : Says K) : ∀ X W, Ct (gq K) P w mg base 0 N_l_same (defScope st_l_same) true X W → SB (gq K) X W (defBody st_l_same) c_l_same := fun X W c =>
  sb_cons (ss_ret (se_cmp (ok_eq c.K c.hu64) (se_bin ok_mul (se_ix c.K (c.var rfl) se_int rfl) (se_ix c.K (c.var rfl) se_int rfl)) (se_bin ok_mul (se_ix c.K (c.var rfl) se_int rfl) (se_ix c.K (c.var rfl) se_int rfl)) rfl)) sb_nil
theorem ok_l_same (T : Tb (gq K) mg tFrees tGlobs) (S : Says K) : FnC (gq K) P w mg base fi_l_same 1 (He.ga K "_law_same") sh_l_same :=
  FnC.of (dfl := ([] : List D)) (S.says.def_ 4 (d := d_l_same) rfl) rfl fs_l_same (b_l_same T S) (fun fd F => ⟨bnd0 F (fun _ _ _ _ _ _ us ws hu hw => match us, ws, hu, hw with | [_, _], [], _, _ => ⟨_, rfl, rfl⟩), trivial⟩)
abbrev sh_l_some : List (Nat × List Str) := [(4, [])]
abbrev N_l_some : List Str := ["_law_a", "_law_b", "_law_ia", "_law_ib"]
theorem fs_l_some : FnScope N_l_some ["_law_a", "_law_b", "_law_ia", "_law_ib"] (defScope st_l_some) := ⟨rfl, rfl, rfl, by decide +kernel, rfl, by decide +kernel, by decide +kernel⟩
theorem b_l_some (T : Tb (gq K) mg tFrees tGlobs) (S : Says K) : ∀ X W, Ct (gq K) P w mg base 1 N_l_some (defScope st_l_some) true X W → SB (gq K) X W (defBody st_l_some) c_l_some := fun X W c =>
  sb_cons (ss_if (st_pw (sw_or (st_cmp ok_is (c.var rfl) se_non rfl) (sw_one _ (st_cmp ok_is (c.var rfl) se_non rfl)))) (sb_cons (ss_ret se_bl) sb_nil) sb_nil) (sb_cons (ss_ret (se_or (c.call T (ok_l_below T S) rfl rfl rfl rfl rfl (.cons rfl (sa_cons rfl (c.var rfl) (sa_cons rfl (c.var rfl) sa_nil))) sk_nil) (se_one (se_and (c.call T (ok_l_same T S) rfl rfl rfl rfl rfl (.cons rfl (sa_cons rfl (c.var rfl) (sa_cons rfl (c.var rfl) sa_nil))) sk_nil) (se_and (c.var rfl) (se_one (c.var rfl))))))) sb_nil)
theorem ok_l_some (T : Tb (gq K) mg tFrees tGlobs) (S : Says K) : FnC (gq K) P w mg base fi_l_some 2 (He.ga K "_law_some") sh_l_some :=
  FnC.of (dfl := ([] : List D)) (S.says.def_ 5 (d := d_l_some) rfl) rfl fs_l_some (b_l_some T S) (fun fd F => ⟨bnd0 F (fun _ _ _ _ _ _ us ws hu hw => match us, ws, hu, hw with | [_, _, _, _], [], _, _ => ⟨_, rfl, rfl⟩), trivial⟩)
abbrev sh_l_ends_of : List (Nat × List Str) := [(1, [])]
abbrev N_l_ends_of : List Str := ["_law_hand", "_law_form", "_law_a", "_law_b", "_law_ia", "_law_ib"]
theorem fs_l_ends_of : FnScope N_l_ends_of ["_law_hand"] (defScope st_l_ends_of) := ⟨rfl, rfl, rfl, by decide +kernel, rfl, by decide +kernel, by decide +kernel⟩
theorem b_l_ends_of (T : Tb (gq K) mg tFrees tGlobs) (S : Says K) : ∀ X W, Ct (gq K) P w mg base 2 N_l_ends_of (defScope st_l_ends_of) true X W → SB (gq K) X W (defBody st_l_ends_of) c_l_ends_of := fun X W c =>
  sb_cons (c.par3 rfl rfl rfl rfl rfl rfl rfl (so_cons rfl (c.call T (ok_l_take T S) rfl rfl rfl rfl rfl (.cons rfl (sa_cons rfl (c.var rfl) (sa_cons rfl se_int sa_nil))) sk_nil) (so_cons rfl (c.call T (ok_l_end_of T S) rfl rfl rfl rfl rfl (.cons rfl (sa_cons rfl (c.var rfl) sa_nil)) sk_nil) (so_cons rfl (c.call T (ok_l_end_of T S) rfl rfl rfl rfl rfl (.cons rfl (sa_cons rfl (c.var rfl) sa_nil)) sk_nil) so_nil)))) (sb_cons (c.par2 rfl rfl rfl rfl (so_cons rfl (se_cmp (ok_eq c.K c.hu64) (c.call T (ok_l_take T S) rfl rfl rfl rfl rfl (.cons rfl (sa_cons rfl (c.var rfl) (sa_cons rfl se_int sa_nil))) sk_nil) se_int rfl) (so_cons rfl (se_cmp (ok_eq c.K c.hu64) (c.call T (ok_l_take T S) rfl rfl rfl rfl rfl (.cons rfl (sa_cons rfl (c.var rfl) (sa_cons rfl se_int sa_nil))) sk_nil) se_int rfl) so_nil))) (sb_cons (ss_if (st_cmp (ok_eq c.K c.hu64) (c.var rfl) se_int rfl) (sb_cons (c.set rfl rfl se_non) sb_nil) sb_nil) (sb_cons (ss_if (st_cmp (ok_eq c.K c.hu64) (c.var rfl) se_int rfl) (sb_cons (c.set rfl rfl se_non) sb_nil) sb_nil) (sb_cons (ss_if (st_cmp (ok_eq c.K c.hu64) (c.var rfl) se_int rfl) (sb_cons (c.tupT (.cons rfl (c.sgName rfl) (.cons rfl (c.sgName rfl) .nil)) rfl (se_tup (sa_cons rfl se_non (sa_cons rfl se_non sa_nil)))) sb_nil) sb_nil) (sb_cons (ss_if (st_cmp (ok_eq c.K c.hu64) (c.var rfl) se_int rfl) (sb_cons (c.par2 rfl rfl rfl rfl (so_cons rfl (c.var rfl) (so_cons rfl (c.var rfl) so_nil))) sb_nil) sb_nil) (sb_cons (ss_if (st_not (st_val (c.call T (ok_l_some T S) rfl rfl rfl rfl rfl (.cons rfl (sa_cons rfl (c.var rfl) (sa_cons rfl (c.var rfl) (sa_cons rfl (c.var rfl) (sa_cons rfl (c.var rfl) sa_nil))))) sk_nil) (fun _ => rfl))) (sb_cons (c.tupT (.cons rfl (c.sgName rfl) (.cons rfl (c.sgName rfl) (.cons rfl (c.sgName rfl) (.cons rfl (c.sgName rfl) .nil)))) rfl (se_tup (sa_cons rfl (c.var rfl) (sa_cons rfl (c.var rfl) (sa_cons rfl se_bl (sa_cons rfl se_bl sa_nil)))))) sb_nil) sb_nil) (sb_cons (ss_ret (se_tup (sa_cons rfl (c.var rfl) (sa_cons rfl (c.var rfl) (sa_cons rfl (c.var rfl) (sa_cons rfl (c.var rfl) sa_nil)))))) sb_nil)))))))
theorem ok_l_ends_of (T : Tb (gq K) mg tFrees tGlobs) (S : Says K) : FnC (gq K) P w mg base fi_l_ends_of 3 (He.ga K "_law_ends_of") sh_l_ends_of :=
  FnC.of (dfl := ([] : List D)) (S.says.def_ 6 (d := d_l_ends_of) rfl) rfl fs_l_ends_of (b_l_ends_of T S) (fun fd F => ⟨bnd0 F (fun _ _ _ _ _ _ us ws hu hw => match us, ws, hu, hw with | [_], [], _, _ => ⟨_, rfl, rfl⟩), trivial⟩)
abbrev sh_l_pair_of : List (Nat × List Str) := [(1, [])]
abbrev N_l_pair_of : List Str := ["_law_hand", "_law_form", "_law_one", "_law_two"]
theorem fs_l_pair_of : FnScope N_l_pair_of ["_law_hand"] (defScope st_l_pair_of) := ⟨rfl, rfl, rfl, by decide +kernel, rfl, by decide +kernel, by decide +kernel⟩
theorem b_l_pair_of (T : Tb (gq K) mg tFrees tGlobs) (S : Says K) : ∀ X W, Ct (gq K) P w mg base 3 N_l_pair_of (defScope st_l_pair_of) true X W → SB (gq K) X W (defBody st_l_pair_of) c_l_pair_of := fun X W c =>
  sb_cons (c.par3 rfl rfl rfl rfl rfl rfl rfl (so_cons rfl (c.call T (ok_l_take T S) rfl rfl rfl rfl rfl (.cons rfl (sa_cons rfl (c.var rfl) (sa_cons rfl se_int sa_nil))) sk_nil) (so_cons rfl (c.call T (ok_l_ends_of T S) rfl rfl rfl rfl rfl (.cons rfl (sa_cons rfl (c.var rfl) sa_nil)) sk_nil) (so_cons rfl (c.call T (ok_l_ends_of T S) rfl rfl rfl rfl rfl (.cons rfl (sa_cons rfl (c.var rfl) sa_nil)) sk_nil) so_nil)))) (sb_cons (ss_if (st_cmp (ok_eq c.K c.hu64) (c.var rfl) se_int rfl) (sb_cons (c.set rfl rfl (se_tup (sa_cons rfl (se_ix c.K (c.var rfl) se_int rfl) (sa_cons rfl (se_ix c.K (c.var rfl) se_int rfl) (sa_cons rfl (se_ix c.K (c.var rfl) se_int rfl) (sa_cons rfl (se_ix c.K (c.var rfl) se_int rfl) sa_nil)))))) sb_nil) sb_nil) (sb_cons (ss_if (st_cmp (ok_eq c.K c.hu64) (c.var rfl) se_int rfl) (sb_cons (c.set rfl rfl (se_tup (sa_cons rfl (se_ix c.K (c.var rfl) se_int rfl) (sa_cons rfl (se_ix c.K (c.var rfl) se_int rfl) (sa_cons rfl (se_ix c.K (c.var rfl) se_int rfl) (sa_cons rfl (se_ix c.K (c.var rfl) se_int rfl) sa_nil)))))) sb_nil) sb_nil) (sb_cons (ss_if (st_cmp (ok_eq c.K c.hu64) (c.var rfl) se_int rfl) (sb_cons (c.set rfl rfl (se_tup (sa_cons rfl (se_ix c.K (c.var rfl) se_int rfl) (sa_cons rfl (se_ix c.K (c.var rfl) se_int rfl) (sa_cons rfl (se_ix c.K (c.var rfl) se_int rfl) (sa_cons rfl (se_ix c.K (c.var rfl) se_int rfl) sa_nil)))))) sb_nil) sb_nil) (sb_cons (ss_if (st_cmp (ok_eq c.K c.hu64) (c.var rfl) se_int rfl) (sb_cons (c.set rfl rfl (se_tup (sa_cons rfl (se_ix c.K (c.var rfl) se_int rfl) (sa_cons rfl (se_ix c.K (c.var rfl) se_int rfl) (sa_cons rfl (se_ix c.K (c.var rfl) se_int rfl) (sa_cons rfl (se_ix c.K (c.var rfl) se_int rfl) sa_nil)))))) sb_nil) sb_nil) (sb_cons (ss_if (st_not (st_val (c.call T (ok_l_some T S) rfl rfl rfl rfl rfl (.cons rfl (sa_cons rfl (se_ix c.K (c.var rfl) se_int rfl) (sa_cons rfl (se_ix c.K (c.var rfl) se_int rfl) (sa_cons rfl (se_ix c.K (c.var rfl) se_int rfl) (sa_cons rfl (se_ix c.K (c.var rfl) se_int rfl) sa_nil))))) sk_nil) (fun _ => rfl))) (sb_cons (c.set rfl rfl (se_tup (sa_cons rfl (se_ix c.K (c.var rfl) se_int rfl) (sa_cons rfl (se_ix c.K (c.var rfl) se_int rfl) (sa_cons rfl se_bl (sa_cons rfl se_bl sa_nil)))))) sb_nil) sb_nil) (sb_cons (ss_ret (se_tup (sa_cons rfl (c.var rfl) (sa_cons rfl (c.var rfl) sa_nil)))) sb_nil))))))
theorem ok_l_pair_of (T : Tb (gq K) mg tFrees tGlobs) (S : Says K) : FnC (gq K) P w mg base fi_l_pair_of 4 (He.ga K "_law_pair_of") sh_l_pair_of :=
  FnC.of (dfl := ([] : List D)) (S.says.def_ 7 (d := d_l_pair_of) rfl) rfl fs_l_pair_of (b_l_pair_of T S) (fun fd F => ⟨bnd0 F (fun _ _ _ _ _ _ us ws hu hw => match us, ws, hu, hw with | [_], [], _, _ => ⟨_, rfl, rfl⟩), trivial⟩)
abbrev sh_l_cut : List (Nat × List Str) := [(2, [])]
abbrev N_l_cut : List Str := ["_law_one", "_law_two", "_law_a", "_law_ia", "_law_b", "_law_ib"]
theorem fs_l_cut : FnScope N_l_cut ["_law_one", "_law_two"] (defScope st_l_cut) := ⟨rfl, rfl, rfl, by decide +kernel, rfl, by decide +kernel, by decide +kernel⟩
theorem b_l_cut (T : Tb (gq K) mg tFrees tGlobs) (S : Says K) : ∀ X W, Ct (gq K) P w mg base 2 N_l_cut (defScope st_l_cut) true X W → SB (gq K) X W (defBody st_l_cut) c_l_cut := fun X W c =>
  sb_cons (c.par2 rfl rfl rfl rfl (so_cons rfl (se_ix c.K (c.var rfl) se_int rfl) (so_cons rfl (se_ix c.K (c.var rfl) se_int rfl) so_nil))) (sb_cons (ss_if (st_pw (sw_or (st_cmp ok_is (c.var rfl) se_non rfl) (sw_one _ (st_pw (sw_and (st_cmp ok_isnot (se_ix c.K (c.var rfl) se_int rfl) se_non rfl) (sw_one _ (st_val (c.call T (ok_l_below T S) rfl rfl rfl rfl rfl (.cons rfl (sa_cons rfl (c.var rfl) (sa_cons rfl (se_ix c.K (c.var rfl) se_int rfl) sa_nil))) sk_nil) (fun _ => rfl)))))))) (sb_cons (c.par2 rfl rfl rfl rfl (so_cons rfl (se_ix c.K (c.var rfl) se_int rfl) (so_cons rfl (se_ix c.K (c.var rfl) se_int rfl) so_nil))) sb_nil) (sb_cons (ss_if (st_pw (sw_and (st_cmp ok_isnot (se_ix c.K (c.var rfl) se_int rfl) se_non rfl) (sw_one _ (st_val (c.call T (ok_l_same T S) rfl rfl rfl rfl rfl (.cons rfl (sa_cons rfl (c.var rfl) (sa_cons rfl (se_ix c.K (c.var rfl) se_int rfl) sa_nil))) sk_nil) (fun _ => rfl))))) (sb_cons (c.set rfl rfl (se_and (c.var rfl) (se_one (se_ix c.K (c.var rfl) se_int rfl)))) sb_nil) sb_nil) sb_nil)) (sb_cons (c.par2 rfl rfl rfl rfl (so_cons rfl (se_ix c.K (c.var rfl) se_int rfl) (so_cons rfl (se_ix c.K (c.var rfl) se_int rfl) so_nil))) (sb_cons (ss_if (st_pw (sw_or (st_cmp ok_is (c.var rfl) se_non rfl) (sw_one _ (st_pw (sw_and (st_cmp ok_isnot (se_ix c.K (c.var rfl) se_int rfl) se_non rfl) (sw_one _ (st_val (c.call T (ok_l_below T S) rfl rfl rfl rfl rfl (.cons rfl (sa_cons rfl (se_ix c.K (c.var rfl) se_int rfl) (sa_cons rfl (c.var rfl) sa_nil))) sk_nil) (fun _ => rfl)))))))) (sb_cons (c.par2 rfl rfl rfl rfl (so_cons rfl (se_ix c.K (c.var rfl) se_int rfl) (so_cons rfl (se_ix c.K (c.var rfl) se_int rfl) so_nil))) sb_nil) (sb_cons (ss_if (st_pw (sw_and (st_cmp ok_isnot (se_ix c.K (c.var rfl) se_int rfl) se_non rfl) (sw_one _ (st_val (c.call T (ok_l_same T S) rfl rfl rfl rfl rfl (.cons rfl (sa_cons rfl (c.var rfl) (sa_cons rfl (se_ix c.K (c.var rfl) se_int rfl) sa_nil))) sk_nil) (fun _ => rfl))))) (sb_cons (c.set rfl rfl (se_and (c.var rfl) (se_one (se_ix c.K (c.var rfl) se_int rfl)))) sb_nil) sb_nil) sb_nil)) (sb_cons (ss_ret (se_if (st_val (c.call T (ok_l_some T S) rfl rfl rfl rfl rfl (.cons rfl (sa_cons rfl (c.var rfl) (sa_cons rfl (c.var rfl) (sa_cons rfl (c.var rfl) (sa_cons rfl (c.var rfl) sa_nil))))) sk_nil) (fun _ => rfl)) (se_tup (sa_cons rfl (c.var rfl) (sa_cons rfl (c.var rfl) (sa_cons rfl (c.var rfl) (sa_cons rfl (c.var rfl) sa_nil))))) se_non)) sb_nil))))
theorem ok_l_cut (T : Tb (gq K) mg tFrees tGlobs) (S : Says K) : FnC (gq K) P w mg base fi_l_cut 3 (He.ga K "_law_cut") sh_l_cut :=
  FnC.of (dfl := ([] : List D)) (S.says.def_ 8 (d := d_l_cut) rfl) rfl fs_l_cut (b_l_cut T S) (fun fd F => ⟨bnd0 F (fun _ _ _ _ _ _ us ws hu hw => match us, ws, hu, hw with | [_, _], [], _, _ => ⟨_, rfl, rfl⟩), trivial⟩)
abbrev sh_is_end : List (Nat × List Str) := [(1, [])]
abbrev N_is_end : List Str := ["thing"]
theorem fs_is_end : FnScope N_is_end ["thing"] (defScope st_is_end) := ⟨rfl, rfl, rfl, by decide +kernel, rfl, by decide +kernel, by decide +kernel⟩
theorem b_is_end (T : Tb (gq K) mg tFrees tGlobs) (S : Says K) : ∀ X W, Ct (gq K) P w mg base 0 N_is_end (defScope st_is_end) true X W → SB (gq K) X W (defBody st_is_end) c_is_end := fun X W c =>
  sb_cons (ss_ret (se_or (se_cmp ok_is (c.var rfl) se_non rfl) (se_one (c.callB T (co_isi c.K (kitF S)) rfl rfl rfl rfl (sa_cons rfl (c.var rfl) (sa_cons rfl (c.clsName T rfl rfl rfl) sa_nil)))))) sb_nil
theorem ok_is_end (T : Tb (gq K) mg tFrees tGlobs) (S : Says K) : FnC (gq K) P w mg base fi_is_end 1 (He.ga K "is_end") sh_is_end :=
  FnC.of (dfl := ([] : List D)) (S.says.def_ 9 (d := d_is_end) rfl) rfl fs_is_end (b_is_end T S) (fun fd F => ⟨bnd0 F (fun _ _ _ _ _ _ us ws hu hw => match us, ws, hu, hw with | [_], [], _, _ => ⟨_, rfl, rfl⟩), trivial⟩)
abbrev sh_Measure_is_below : List (Nat × List Str) := [(2, [])]
abbrev N_Measure_is_below : List Str := ["self", "other", "alike", "here", "there"]
theorem fs_Measure_is_below : FnScope N_Measure_is_below ["self", "other", "alike"] (defScope st_Measure_is_below) := ⟨rfl, rfl, rfl, by decide +kernel, rfl, by decide +kernel, by decide +kernel⟩
theorem b_Measure_is_below (T : Tb (gq K) mg tFrees tGlobs) (S : Says K) : ∀ X W, Ct (gq K) P w mg base 0 N_Measure_is_below (defScope st_Measure_is_below) true X W → SB (gq K) X W (defBody st_Measure_is_below) c_Measure_is_below := fun X W c =>
  sb_cons (c.par2 rfl rfl rfl rfl (so_cons rfl (se_bin ok_mul (c.attr (fldF S) (no_top S) (c.var rfl) rfl) (c.attr (fldF S) (no_bottom S) (c.var rfl) rfl)) (so_cons rfl (se_bin ok_mul (c.attr (fldF S) (no_top S) (c.var rfl) rfl) (c.attr (fldF S) (no_bottom S) (c.var rfl) rfl)) so_nil))) (sb_cons (ss_ret (se_or (se_cmp ok_lt (c.var rfl) (c.var rfl) rfl) (se_one (se_and (c.var rfl) (se_one (se_cmp (ok_eq c.K c.hu64) (c.var rfl) (c.var rfl) rfl)))))) sb_nil)
theorem ok_Measure_is_below (T : Tb (gq K) mg tFrees tGlobs) (S : Says K) : FnC (gq K) P w mg base fi_Measure_is_below 1 (He.ma K (He.ga K "Measure") "is_below") sh_Measure_is_below :=
  FnC.of (dfl := ([.bl false] : List D)) (S.says.def_ 10 (d := d_Measure_is_below) rfl) rfl fs_Measure_is_below (b_Measure_is_below T S) (fun fd F => ⟨bnd1 F (by intro h; cases h) (fun _ _ _ _ _ _ _ us its ws hu hi hw => match us, its, ws, hu, hi, hw with | [_, _], [_], [], _, _, _ => ⟨_, rfl, _, rfl, rfl⟩), trivial⟩)
theorem mtc_is_below_ (T : Tb (gq K) mg tFrees tGlobs) (S : Says K) : ∀ c fi, mt_is_below c = some fi → ∃ f, FnC (gq K) P w mg base fi 1 f [(2, [])] ∧ Cls (gq K).K ((gq K).cad c) ∧ Meth (gq K).K ((gq K).cad c) "is_below" f ∧ ((gq K).fl c).contains "is_below" = false
  | 0, fi, h => by
    cases h
    exact ⟨_, (ok_Measure_is_below T S).sub 1 rfl (by decide +kernel), cls_all S 0 (by decide), He.meth_ok (rest_ok S.says 16 rfl), rfl⟩
  | 1, fi, h => by cases h
  | n + 2, fi, h => by cases h
theorem mtc_is_below (T : Tb (gq K) mg tFrees tGlobs) (S : Says K) : MtC (gq K) P w mg base mt_is_below "is_below" 1 [(2, [])] := ⟨mtc_is_below_ T S⟩
abbrev sh_Measure___eq__ : List (Nat × List Str) := [(2, [])]
abbrev N_Measure___eq__ : List Str := ["self", "other"]
theorem fs_Measure___eq__ : FnScope N_Measure___eq__ ["self", "other"] (defScope st_Measure___eq__) := ⟨rfl, rfl, rfl, by decide +kernel, rfl, by decide +kernel, by decide +kernel⟩
theorem b_Measure___eq__ (T : Tb (gq K) mg tFrees tGlobs) (S : Says K) : ∀ X W, Ct (gq K) P w mg base 0 N_Measure___eq__ (defScope st_Measure___eq__) true X W → SB (gq K) X W (defBody st_Measure___eq__) c_Measure___eq__ := fun X W c =>
  sb_cons (ss_ret (se_and (c.callB T (co_isi c.K (kitF S)) rfl rfl rfl rfl (sa_cons rfl (c.var rfl) (sa_cons rfl (c.clsName T rfl rfl rfl) sa_nil))) (se_and (se_cmp (ok_eq c.K c.hu64) (c.attr (fldF S) (no_top S) (c.var rfl) rfl) (c.attr (fldF S) (no_top S) (c.var rfl) rfl) rfl) (se_one (se_cmp (ok_eq c.K c.hu64) (c.attr (fldF S) (no_bottom S) (c.var rfl) rfl) (c.attr (fldF S) (no_bottom S) (c.var rfl) rfl) rfl))))) sb_nil
theorem ok_Measure___eq__ (T : Tb (gq K) mg tFrees tGlobs) (S : Says K) : FnC (gq K) P w mg base fi_Measure___eq__ 1 (He.ma K (He.ga K "Measure") "__eq__") sh_Measure___eq__ :=
  FnC.of (dfl := ([] : List D)) (S.says.def_ 11 (d := d_Measure___eq__) rfl) rfl fs_Measure___eq__ (b_Measure___eq__ T S) (fun fd F => ⟨bnd0 F (fun _ _ _ _ _ _ us ws hu hw => match us, ws, hu, hw with | [_, _], [], _, _ => ⟨_, rfl, rfl⟩), trivial⟩)
theorem eqc_Measure_ (T : Tb (gq K) mg tFrees tGlobs) (S : Says K) : ∀ c fi, eqm_Measure c = some fi → ∃ f, FnC (gq K) P w mg base fi 1 f [(2, [])] ∧ PySem.W.findIn (gq K).K (.ref ((gq K).cad c)) "__eq__" = some (some (.ref f)) ∧ PySem.W.isFn (gq K).K (.ref f) = true ∧ fi.ps.length = 2
  | 0, fi, h => by
    cases h
    have M := He.meth_ok (rest_ok S.says 17 rfl)
    exact ⟨_, (ok_Measure___eq__ T S).sub 1 rfl (by decide +kernel), eqf_Measure S, M.fn, rfl⟩
  | 1, fi, h => by cases h
  | n + 2, fi, h => by cases h
theorem eqc_Measuren (S : Says K) : ∀ c c' fi fi', eqm_Measure c = some fi → eqm_Measure c' = some fi' → PySem.W.notFirst (gq K).K ((gq K).cad c) (.ref ((gq K).cad c')) = true := by
  intro c c' fi fi' h h'
  have k : ∀ n fi, eqm_Measure n = some fi → n = 0 := by
    intro n fi h
    unfold eqm_Measure at h
    split at h <;> first | (cases h; done) | simp
  rcases k c fi h with rfl <;> rcases k c' fi' h' with rfl <;> first | exact nfB_Measure_Measure S
theorem eqc_Measure (T : Tb (gq K) mg tFrees tGlobs) (S : Says K) : EqC (gq K) P w mg base eqm_Measure 1 := ⟨eqc_Measure_ T S, eqc_Measuren S⟩
abbrev sh_is_some : List (Nat × List Str) := [(4, [])]
abbrev N_is_some : List Str := ["low", "high", "low_in", "high_in"]
theorem fs_is_some : FnScope N_is_some ["low", "high", "low_in", "high_in"] (defScope st_is_some) := ⟨rfl, rfl, rfl, by decide +kernel, rfl, by decide +kernel, by decide +kernel⟩
theorem b_is_some (T : Tb (gq K) mg tFrees tGlobs) (S : Says K) : ∀ X W, Ct (gq K) P w mg base 1 N_is_some (defScope st_is_some) true X W → SB (gq K) X W (defBody st_is_some) c_is_some := fun X W c =>
  sb_cons (ss_if (st_pw (sw_or (st_cmp ok_is (c.var rfl) se_non rfl) (sw_one _ (st_cmp ok_is (c.var rfl) se_non rfl)))) (sb_cons (ss_ret se_bl) sb_nil) sb_nil) (sb_cons (ss_ret (se_or (c.meth (mtc_is_below T S) rfl rfl rfl rfl rfl (c.var rfl) (.cons rfl (sa_cons rfl (c.var rfl) sa_nil)) sk_nil) (se_one (se_and (se_cmp (c.eqo (eqc_Measure T S) rfl) (c.var rfl) (c.var rfl) rfl) (se_and (c.var rfl) (se_one (c.var rfl))))))) sb_nil)
theorem ok_is_some (T : Tb (gq K) mg tFrees tGlobs) (S : Says K) : FnC (gq K) P w mg base fi_is_some 2 (He.ga K "is_some") sh_is_some :=
  FnC.of (dfl := ([] : List D)) (S.says.def_ 12 (d := d_is_some) rfl) rfl fs_is_some (b_is_some T S) (fun fd F => ⟨bnd0 F (fun _ _ _ _ _ _ us ws hu hw => match us, ws, hu, hw with | [_, _, _, _], [], _, _ => ⟨_, rfl, rfl⟩), trivial⟩)
abbrev sh_Stretch___init__ : List (Nat × List Str) := [(5, [])]
abbrev N_Stretch___init__ : List Str := ["self", "low", "high", "low_in", "high_in"]
theorem fs_Stretch___init__ : FnScope N_Stretch___init__ ["self", "low", "high", "low_in", "high_in"] (defScope st_Stretch___init__) := ⟨rfl, rfl, rfl, by decide +kernel, rfl, by decide +kernel, by decide +kernel⟩
theorem b_Stretch___init__ (T : Tb (gq K) mg tFrees tGlobs) (S : Says K) : ∀ X W, Ct (gq K) P w mg base 2 N_Stretch___init__ (defScope st_Stretch___init__) true X W → SB (gq K) X W (defBody st_Stretch___init__) c_Stretch___init__ := fun X W c =>
  sb_cons (ss_if (st_pw (sw_or (st_not (st_val (c.call T (ok_is_end T S) rfl rfl rfl rfl rfl (.cons rfl (sa_cons rfl (c.var rfl) sa_nil)) sk_nil) (fun _ => rfl))) (sw_or (st_not (st_val (c.call T (ok_is_end T S) rfl rfl rfl rfl rfl (.cons rfl (sa_cons rfl (c.var rfl) sa_nil)) sk_nil) (fun _ => rfl))) (sw_or (st_not (st_val (c.callB T (co_isi c.K (kitF S)) rfl rfl rfl rfl (sa_cons rfl (c.var rfl) (sa_cons rfl (c.tyName T rfl rfl rfl) sa_nil))) (fun _ => rfl))) (sw_one _ (st_not (st_val (c.callB T (co_isi c.K (kitF S)) rfl rfl rfl rfl (sa_cons rfl (c.var rfl) (sa_cons rfl (c.tyName T rfl rfl rfl) sa_nil))) (fun _ => rfl)))))))) (sb_cons ss_no sb_nil) sb_nil) (sb_cons (ss_if (st_not (st_val (c.call T (ok_is_some T S) rfl rfl rfl rfl rfl (.cons rfl (sa_cons rfl (c.var rfl) (sa_cons rfl (c.var rfl) (sa_cons rfl (c.var rfl) (sa_cons rfl (c.var rfl) sa_nil))))) sk_nil) (fun _ => rfl))) (sb_cons ss_no sb_nil) sb_nil) (sb_cons (c.fld (fldF S) (no_low S) (c.var rfl) (c.var rfl)) (sb_cons (c.fld (fldF S) (no_high S) (c.var rfl) (c.var rfl)) (sb_cons (c.fld (fldF S) (no_low_in S) (c.var rfl) (se_and (se_cmp ok_isnot (c.var rfl) se_non rfl) (se_one (c.var rfl)))) (sb_cons (c.fld (fldF S) (no_high_in S) (c.var rfl) (se_and (se_cmp ok_isnot (c.var rfl) se_non rfl) (se_one (c.var rfl)))) sb_nil)))))
theorem ok_Stretch___init__ (T : Tb (gq K) mg tFrees tGlobs) (S : Says K) : FnC (gq K) P w mg base fi_Stretch___init__ 3 (He.ma K (He.ga K "Stretch") "__init__") sh_Stretch___init__ :=
  FnC.of (dfl := ([.bl false, .bl true] : List D)) (S.says.def_ 13 (d := d_Stretch___init__) rfl) rfl fs_Stretch___init__ (b_Stretch___init__ T S) (fun fd F => ⟨bnd1 F (by intro h; cases h) (fun _ _ _ _ _ _ _ us its ws hu hi hw => match us, its, ws, hu, hi, hw with | [_, _, _, _, _], [_, _], [], _, _, _ => ⟨_, rfl, _, rfl, rfl⟩), trivial⟩)
abbrev sh_is_whole : List (Nat × List Str) := [(1, [])]
abbrev N_is_whole : List Str := ["thing"]
theorem fs_is_whole : FnScope N_is_whole ["thing"] (defScope st_is_whole) := ⟨rfl, rfl, rfl, by decide +kernel, rfl, by decide +kernel, by decide +kernel⟩
theorem b_is_whole (T : Tb (gq K) mg tFrees tGlobs) (S : Says K) : ∀ X W, Ct (gq K) P w mg base 0 N_is_whole (defScope st_is_whole) true X W → SB (gq K) X W (defBody st_is_whole) c_is_whole := fun X W c =>
  sb_cons (ss_ret (se_and (c.callB T (co_isi c.K (kitF S)) rfl rfl rfl rfl (sa_cons rfl (c.var rfl) (sa_cons rfl (c.tyName T rfl rfl rfl) sa_nil))) (se_one (se_not (c.callB T (co_isi c.K (kitF S)) rfl rfl rfl rfl (sa_cons rfl (c.var rfl) (sa_cons rfl (c.tyName T rfl rfl rfl) sa_nil))))))) sb_nil
theorem ok_is_whole (T : Tb (gq K) mg tFrees tGlobs) (S : Says K) : FnC (gq K) P w mg base fi_is_whole 1 (He.ga K "is_whole") sh_is_whole :=
  FnC.of (dfl := ([] : List D)) (S.says.def_ 14 (d := d_is_whole) rfl) rfl fs_is_whole (b_is_whole T S) (fun fd F => ⟨bnd0 F (fun _ _ _ _ _ _ us ws hu hw => match us, ws, hu, hw with | [_], [], _, _ => ⟨_, rfl, rfl⟩), trivial⟩)
abbrev sh_common_part : List (Nat × List Str) := [(2, [])]
abbrev N_common_part : List Str := ["many", "few"]
theorem fs_common_part : FnScope N_common_part ["many", "few"] (defScope st_common_part) := ⟨rfl, rfl, rfl, by decide +kernel, rfl, by decide +kernel, by decide +kernel⟩
theorem b_common_part (T : Tb (gq K) mg tFrees tGlobs) (S : Says K) : ∀ X W, Ct (gq K) P w mg base 0 N_common_part (defScope st_common_part) true X W → SB (gq K) X W (defBody st_common_part) c_common_part := fun X W c =>
  sb_cons (ss_while (c.po rfl) (st_cmp ok_gt (c.var rfl) se_int rfl) (sb_cons (c.par2 rfl rfl rfl rfl (so_cons rfl (c.var rfl) (so_cons rfl (se_bin ok_mod (c.var rfl) (c.var rfl)) so_nil))) sb_nil)) (sb_cons (ss_ret (c.var rfl)) sb_nil)
theorem ok_common_part (T : Tb (gq K) mg tFrees tGlobs) (S : Says K) : FnC (gq K) P w mg base fi_common_part 1 (He.ga K "common_part") sh_common_part :=
  FnC.of (dfl := ([] : List D)) (S.says.def_ 15 (d := d_common_part) rfl) rfl fs_common_part (b_common_part T S) (fun fd F => ⟨bnd0 F (fun _ _ _ _ _ _ us ws hu hw => match us, ws, hu, hw with | [_, _], [], _, _ => ⟨_, rfl, rfl⟩), trivial⟩)
abbrev sh_Measure___init__ : List (Nat × List Str) := [(3, []), (2, [])]
abbrev N_Measure___init__ : List Str := ["self", "top", "bottom", "part"]
theorem fs_Measure___init__ : FnScope N_Measure___init__ ["self", "top", "bottom"] (defScope st_Measure___init__) := ⟨rfl, rfl, rfl, by decide +kernel, rfl, by decide +kernel, by decide +kernel⟩
theorem b_Measure___init__ (T : Tb (gq K) mg tFrees tGlobs) (S : Says K) : ∀ X W, Ct (gq K) P w mg base 1 N_Measure___init__ (defScope st_Measure___init__) true X W → SB (gq K) X W (defBody st_Measure___init__) c_Measure___init__ := fun X W c =>
  sb_cons (ss_if (st_pw (sw_or (st_not (st_val (c.call T (ok_is_whole T S) rfl rfl rfl rfl rfl (.cons rfl (sa_cons rfl (c.var rfl) sa_nil)) sk_nil) (fun _ => rfl))) (sw_one _ (st_not (st_val (c.call T (ok_is_whole T S) rfl rfl rfl rfl rfl (.cons rfl (sa_cons rfl (c.var rfl) sa_nil)) sk_nil) (fun _ => rfl)))))) (sb_cons ss_no sb_nil) sb_nil) (sb_cons (ss_if (st_cmp (ok_eq c.K c.hu64) (c.var rfl) se_int rfl) (sb_cons ss_no sb_nil) sb_nil) (sb_cons (c.set rfl rfl (c.call T (ok_common_part T S) rfl rfl rfl rfl rfl (.cons rfl (sa_cons rfl (c.callB T co_abs rfl rfl rfl rfl (sa_cons rfl (c.var rfl) sa_nil)) (sa_cons rfl (c.callB T co_abs rfl rfl rfl rfl (sa_cons rfl (c.var rfl) sa_nil)) sa_nil))) sk_nil)) (sb_cons (ss_if (st_cmp ok_lt (c.var rfl) se_int rfl) (sb_cons (c.set rfl rfl (se_bin ok_sub se_int (c.var rfl))) sb_nil) sb_nil) (sb_cons (c.fld (fldF S) (no_top S) (c.var rfl) (se_bin ok_fdiv (c.var rfl) (c.var rfl))) (sb_cons (c.fld (fldF S) (no_bottom S) (c.var rfl) (se_bin ok_fdiv (c.var rfl) (c.var rfl))) sb_nil)))))
theorem ok_Measure___init__ (T : Tb (gq K) mg tFrees tGlobs) (S : Says K) : FnC (gq K) P w mg base fi_Measure___init__ 2 (He.ma K (He.ga K "Measure") "__init__") sh_Measure___init__ :=
  FnC.of (dfl := ([.int 1] : List D)) (S.says.def_ 16 (d := d_Measure___init__) rfl) rfl fs_Measure___init__ (b_Measure___init__ T S) (fun fd F => ⟨bnd1 F (by intro h; cases h) (fun _ _ _ _ _ _ _ us its ws hu hi hw => match us, its, ws, hu, hi, hw with | [_, _, _], [_], [], _, _, _ => ⟨_, rfl, _, rfl, rfl⟩), ⟨bnd1 F (by intro h; cases h) (fun _ _ _ _ _ _ _ us its ws hu hi hw => match us, its, ws, hu, hi, hw with | [_, _], [_], [], _, _, _ => ⟨_, rfl, _, rfl, rfl⟩), trivial⟩⟩)
abbrev sh_l_measure : List (Nat × List Str) := [(1, [])]
abbrev N_l_measure : List Str := ["_law_end"]
theorem fs_l_measure : FnScope N_l_measure ["_law_end"] (defScope st_l_measure) := ⟨rfl, rfl, rfl, by decide +kernel, rfl, by decide +kernel, by decide +kernel⟩
theorem b_l_measure (T : Tb (gq K) mg tFrees tGlobs) (S : Says K) : ∀ X W, Ct (gq K) P w mg base 3 N_l_measure (defScope st_l_measure) true X W → SB (gq K) X W (defBody st_l_measure) c_l_measure := fun X W c =>
  sb_cons (ss_ret (se_if (st_cmp ok_is (c.var rfl) se_non rfl) se_non (c.make T (ok_Measure___init__ T S) (mkr_Measure S) rfl rfl rfl rfl rfl rfl rfl (.cons rfl (sa_cons rfl (se_ix c.K (c.var rfl) se_int rfl) (sa_cons rfl (se_ix c.K (c.var rfl) se_int rfl) sa_nil))) sk_nil))) sb_nil
theorem ok_l_measure (T : Tb (gq K) mg tFrees tGlobs) (S : Says K) : FnC (gq K) P w mg base fi_l_measure 4 (He.ga K "_law_measure") sh_l_measure :=
  FnC.of (dfl := ([] : List D)) (S.says.def_ 17 (d := d_l_measure) rfl) rfl fs_l_measure (b_l_measure T S) (fun fd F => ⟨bnd0 F (fun _ _ _ _ _ _ us ws hu hw => match us, ws, hu, hw with | [_], [], _, _ => ⟨_, rfl, rfl⟩), trivial⟩)
abbrev sh_l_made : List (Nat × List Str) := [(1, [])]
abbrev N_l_made : List Str := ["_law_ends"]
theorem fs_l_made : FnScope N_l_made ["_law_ends"] (defScope st_l_made) := ⟨rfl, rfl, rfl, by decide +kernel, rfl, by decide +kernel, by decide +kernel⟩
theorem b_l_made (T : Tb (gq K) mg tFrees tGlobs) (S : Says K) : ∀ X W, Ct (gq K) P w mg base 4 N_l_made (defScope st_l_made) true X W → SB (gq K) X W (defBody st_l_made) c_l_made := fun X W c =>
  sb_cons (ss_ret (c.make T (ok_Stretch___init__ T S) (mkr_Stretch S) rfl rfl rfl rfl rfl rfl rfl (.cons rfl (sa_cons rfl (c.call T (ok_l_measure T S) rfl rfl rfl rfl rfl (.cons rfl (sa_cons rfl (se_ix c.K (c.var rfl) se_int rfl) sa_nil)) sk_nil) (sa_cons rfl (c.call T (ok_l_measure T S) rfl rfl rfl rfl rfl (.cons rfl (sa_cons rfl (se_ix c.K (c.var rfl) se_int rfl) sa_nil)) sk_nil) (sa_cons rfl (se_ix c.K (c.var rfl) se_int rfl) (sa_cons rfl (se_ix c.K (c.var rfl) se_int rfl) sa_nil))))) sk_nil)) sb_nil
theorem ok_l_made (T : Tb (gq K) mg tFrees tGlobs) (S : Says K) : FnC (gq K) P w mg base fi_l_made 5 (He.ga K "_law_made") sh_l_made :=
  FnC.of (dfl := ([] : List D)) (S.says.def_ 18 (d := d_l_made) rfl) rfl fs_l_made (b_l_made T S) (fun fd F => ⟨bnd0 F (fun _ _ _ _ _ _ us ws hu hw => match us, ws, hu, hw with | [_], [], _, _ => ⟨_, rfl, rfl⟩), trivial⟩)
abbrev sh_later_begin : List (Nat × List Str) := [(2, [])]
abbrev N_later_begin : List Str := ["here", "there"]
theorem fs_later_begin : FnScope N_later_begin ["here", "there"] (defScope st_later_begin) := ⟨rfl, rfl, rfl, by decide +kernel, rfl, by decide +kernel, by decide +kernel⟩
theorem b_later_begin (T : Tb (gq K) mg tFrees tGlobs) (S : Says K) : ∀ X W, Ct (gq K) P w mg base 1 N_later_begin (defScope st_later_begin) true X W → SB (gq K) X W (defBody st_later_begin) c_later_begin := fun X W c =>
  sb_cons (ss_if (st_pw (sw_or (st_cmp ok_is (c.attr (fldF S) (no_low S) (c.var rfl) rfl) se_non rfl) (sw_one _ (st_pw (sw_and (st_cmp ok_isnot (c.attr (fldF S) (no_low S) (c.var rfl) rfl) se_non rfl) (sw_one _ (st_val (c.meth (mtc_is_below T S) rfl rfl rfl rfl rfl (c.attr (fldF S) (no_low S) (c.var rfl) rfl) (.cons rfl (sa_cons rfl (c.attr (fldF S) (no_low S) (c.var rfl) rfl) sa_nil)) sk_nil) (fun _ => rfl)))))))) (sb_cons (ss_ret (se_tup (sa_cons rfl (c.attr (fldF S) (no_low S) (c.var rfl) rfl) (sa_cons rfl (c.attr (fldF S) (no_low_in S) (c.var rfl) rfl) sa_nil)))) sb_nil) sb_nil) (sb_cons (ss_if (st_pw (sw_and (st_cmp ok_isnot (c.attr (fldF S) (no_low S) (c.var rfl) rfl) se_non rfl) (sw_one _ (st_cmp (c.eqo (eqc_Measure T S) rfl) (c.attr (fldF S) (no_low S) (c.var rfl) rfl) (c.attr (fldF S) (no_low S) (c.var rfl) rfl) rfl)))) (sb_cons (ss_ret (se_tup (sa_cons rfl (c.attr (fldF S) (no_low S) (c.var rfl) rfl) (sa_cons rfl (se_and (c.attr (fldF S) (no_low_in S) (c.var rfl) rfl) (se_one (c.attr (fldF S) (no_low_in S) (c.var rfl) rfl))) sa_nil)))) sb_nil) sb_nil) (sb_cons (ss_ret (se_tup (sa_cons rfl (c.attr (fldF S) (no_low S) (c.var rfl) rfl) (sa_cons rfl (c.attr (fldF S) (no_low_in S) (c.var rfl) rfl) sa_nil)))) sb_nil))
theorem ok_later_begin (T : Tb (gq K) mg tFrees tGlobs) (S : Says K) : FnC (gq K) P w mg base fi_later_begin 2 (He.ga K "later_begin") sh_later_begin :=
  FnC.of (dfl := ([] : List D)) (S.says.def_ 19 (d := d_later_begin) rfl) rfl fs_later_begin (b_later_begin T S) (fun fd F => ⟨bnd0 F (fun _ _ _ _ _ _ us ws hu hw => match us, ws, hu, hw with | [_, _], [], _, _ => ⟨_, rfl, rfl⟩), trivial⟩)
abbrev sh_earlier_end : List (Nat × List Str) := [(2, [])]
abbrev N_earlier_end : List Str := ["here", "there"]
theorem fs_earlier_end : FnScope N_earlier_end ["here", "there"] (defScope st_earlier_end) := ⟨rfl, rfl, rfl, by decide +kernel, rfl, by decide +kernel, by decide +kernel⟩
theorem b_earlier_end (T : Tb (gq K) mg tFrees tGlobs) (S : Says K) : ∀ X W, Ct (gq K) P w mg base 1 N_earlier_end (defScope st_earlier_end) true X W → SB (gq K) X W (defBody st_earlier_end) c_earlier_end := fun X W c =>
  sb_cons (ss_if (st_pw (sw_or (st_cmp ok_is (c.attr (fldF S) (no_high S) (c.var rfl) rfl) se_non rfl) (sw_one _ (st_pw (sw_and (st_cmp ok_isnot (c.attr (fldF S) (no_high S) (c.var rfl) rfl) se_non rfl) (sw_one _ (st_val (c.meth (mtc_is_below T S) rfl rfl rfl rfl rfl (c.attr (fldF S) (no_high S) (c.var rfl) rfl) (.cons rfl (sa_cons rfl (c.attr (fldF S) (no_high S) (c.var rfl) rfl) sa_nil)) sk_nil) (fun _ => rfl)))))))) (sb_cons (ss_ret (se_tup (sa_cons rfl (c.attr (fldF S) (no_high S) (c.var rfl) rfl) (sa_cons rfl (c.attr (fldF S) (no_high_in S) (c.var rfl) rfl) sa_nil)))) sb_nil) sb_nil) (sb_cons (ss_if (st_pw (sw_and (st_cmp ok_isnot (c.attr (fldF S) (no_high S) (c.var rfl) rfl) se_non rfl) (sw_one _ (st_cmp (c.eqo (eqc_Measure T S) rfl) (c.attr (fldF S) (no_high S) (c.var rfl) rfl) (c.attr (fldF S) (no_high S) (c.var rfl) rfl) rfl)))) (sb_cons (ss_ret (se_tup (sa_cons rfl (c.attr (fldF S) (no_high S) (c.var rfl) rfl) (sa_cons rfl (se_and (c.attr (fldF S) (no_high_in S) (c.var rfl) rfl) (se_one (c.attr (fldF S) (no_high_in S) (c.var rfl) rfl))) sa_nil)))) sb_nil) sb_nil) (sb_cons (ss_ret (se_tup (sa_cons rfl (c.attr (fldF S) (no_high S) (c.var rfl) rfl) (sa_cons rfl (c.attr (fldF S) (no_high_in S) (c.var rfl) rfl) sa_nil)))) sb_nil))
theorem ok_earlier_end (T : Tb (gq K) mg tFrees tGlobs) (S : Says K) : FnC (gq K) P w mg base fi_earlier_end 2 (He.ga K "earlier_end") sh_earlier_end :=
  FnC.of (dfl := ([] : List D)) (S.says.def_ 20 (d := d_earlier_end) rfl) rfl fs_earlier_end (b_earlier_end T S) (fun fd F => ⟨bnd0 F (fun _ _ _ _ _ _ us ws hu hw => match us, ws, hu, hw with | [_, _], [], _, _ => ⟨_, rfl, rfl⟩), trivial⟩)
abbrev sh_Stretch_cut : List (Nat × List Str) := [(2, [])]
abbrev N_Stretch_cut : List Str := ["self", "other", "low", "low_in", "high", "high_in"]
theorem fs_Stretch_cut : FnScope N_Stretch_cut ["self", "other"] (defScope st_Stretch_cut) := ⟨rfl, rfl, rfl, by decide +kernel, rfl, by decide +kernel, by decide +kernel⟩
theorem b_Stretch_cut (T : Tb (gq K) mg tFrees tGlobs) (S : Says K) : ∀ X W, Ct (gq K) P w mg base 4 N_Stretch_cut (defScope st_Stretch_cut) true X W → SB (gq K) X W (defBody st_Stretch_cut) c_Stretch_cut := fun X W c =>
  sb_cons (c.tupS (.cons rfl (c.sgName rfl) (.cons rfl (c.sgName rfl) .nil)) rfl (c.call T (ok_later_begin T S) rfl rfl rfl rfl rfl (.cons rfl (sa_cons rfl (c.var rfl) (sa_cons rfl (c.var rfl) sa_nil))) sk_nil)) (sb_cons (c.tupS (.cons rfl (c.sgName rfl) (.cons rfl (c.sgName rfl) .nil)) rfl (c.call T (ok_earlier_end T S) rfl rfl rfl rfl rfl (.cons rfl (sa_cons rfl (c.var rfl) (sa_cons rfl (c.var rfl) sa_nil))) sk_nil)) (sb_cons (ss_if (st_not (st_val (c.call T (ok_is_some T S) rfl rfl rfl rfl rfl (.cons rfl (sa_cons rfl (c.var rfl) (sa_cons rfl (c.var rfl) (sa_cons rfl (c.var rfl) (sa_cons rfl (c.var rfl) sa_nil))))) sk_nil) (fun _ => rfl))) (sb_cons (ss_ret se_non) sb_nil) sb_nil) (sb_cons (ss_ret (c.make T (ok_Stretch___init__ T S) (mkr_Stretch S) rfl rfl rfl rfl rfl rfl rfl (.cons rfl (sa_cons rfl (c.var rfl) (sa_cons rfl (c.var rfl) (sa_cons rfl (c.var rfl) (sa_cons rfl (c.var rfl) sa_nil))))) sk_nil)) sb_nil)))
theorem ok_Stretch_cut (T : Tb (gq K) mg tFrees tGlobs) (S : Says K) : FnC (gq K) P w mg base fi_Stretch_cut 5 (He.ma K (He.ga K "Stretch") "cut") sh_Stretch_cut :=
  FnC.of (dfl := ([] : List D)) (S.says.def_ 21 (d := d_Stretch_cut) rfl) rfl fs_Stretch_cut (b_Stretch_cut T S) (fun fd F => ⟨bnd0 F (fun _ _ _ _ _ _ us ws hu hw => match us, ws, hu, hw with | [_, _], [], _, _ => ⟨_, rfl, rfl⟩), trivial⟩)
theorem mtc_cut_ (T : Tb (gq K) mg tFrees tGlobs) (S : Says K) : ∀ c fi, mt_cut c = some fi → ∃ f, FnC (gq K) P w mg base fi 5 f [(2, [])] ∧ Cls (gq K).K ((gq K).cad c) ∧ Meth (gq K).K ((gq K).cad c) "cut" f ∧ ((gq K).fl c).contains "cut" = false
  | 1, fi, h => by
    cases h
    exact ⟨_, (ok_Stretch_cut T S).sub 5 rfl (by decide +kernel), cls_all S 1 (by decide), He.meth_ok (rest_ok S.says 18 rfl), rfl⟩
  | 0, fi, h => by cases h
  | n + 2, fi, h => by cases h
theorem mtc_cut (T : Tb (gq K) mg tFrees tGlobs) (S : Says K) : MtC (gq K) P w mg base mt_cut "cut" 5 [(2, [])] := ⟨mtc_cut_ T S⟩
abbrev sh_Stretch_meets : List (Nat × List Str) := [(2, []), (1, ["other"])]
abbrev N_Stretch_meets : List Str := ["self", "other"]
theorem fs_Stretch_meets : FnScope N_Stretch_meets ["self", "other"] (defScope st_Stretch_meets) := ⟨rfl, rfl, rfl, by decide +kernel, rfl, by decide +kernel, by decide +kernel⟩
theorem b_Stretch_meets (T : Tb (gq K) mg tFrees tGlobs) (S : Says K) : ∀ X W, Ct (gq K) P w mg base 5 N_Stretch_meets (defScope st_Stretch_meets) true X W → SB (gq K) X W (defBody st_Stretch_meets) c_Stretch_meets := fun X W c =>
  sb_cons (ss_ret (se_cmp ok_isnot (c.meth (mtc_cut T S) rfl rfl rfl rfl rfl (c.var rfl) (.cons rfl (sa_cons rfl (c.var rfl) sa_nil)) sk_nil) se_non rfl)) sb_nil
theorem ok_Stretch_meets (T : Tb (gq K) mg tFrees tGlobs) (S : Says K) : FnC (gq K) P w mg base fi_Stretch_meets 6 (He.ma K (He.ga K "Stretch") "meets") sh_Stretch_meets :=
  FnC.of (dfl := ([] : List D)) (S.says.def_ 22 (d := d_Stretch_meets) rfl) rfl fs_Stretch_meets (b_Stretch_meets T S) (fun fd F => ⟨bnd0 F (fun _ _ _ _ _ _ us ws hu hw => match us, ws, hu, hw with | [_, _], [], _, _ => ⟨_, rfl, rfl⟩), ⟨bnd0 F (fun _ _ _ _ _ _ us ws hu hw => match us, ws, hu, hw with | [_], [_], _, _ => ⟨_, rfl, rfl⟩), trivial⟩⟩)
theorem mtc_meets_ (T : Tb (gq K) mg tFrees tGlobs) (S : Says K) : ∀ c fi, mt_meets c = some fi → ∃ f, FnC (gq K) P w mg base fi 6 f [(2, []), (1, ["other"])] ∧ Cls (gq K).K ((gq K).cad c) ∧ Meth (gq K).K ((gq K).cad c) "meets" f ∧ ((gq K).fl c).contains "meets" = false
  | 1, fi, h => by
    cases h
    exact ⟨_, (ok_Stretch_meets T S).sub 6 rfl (by decide +kernel), cls_all S 1 (by decide), He.meth_ok (rest_ok S.says 19 rfl), rfl⟩
  | 0, fi, h => by cases h
  | n + 2, fi, h => by cases h
theorem mtc_meets (T : Tb (gq K) mg tFrees tGlobs) (S : Says K) : MtC (gq K) P w mg base mt_meets "meets" 6 [(2, []), (1, ["other"])] := ⟨mtc_meets_ T S⟩
abbrev sh_nought : List (Nat × List Str) := [(0, [])]
abbrev N_nought : List Str := []
theorem fs_nought : FnScope N_nought [] (defScope st_nought) := ⟨rfl, rfl, rfl, by decide +kernel, rfl, by decide +kernel, by decide +kernel⟩
theorem b_nought (T : Tb (gq K) mg tFrees tGlobs) (S : Says K) : ∀ X W, Ct (gq K) P w mg base 3 N_nought (defScope st_nought) true X W → SB (gq K) X W (defBody st_nought) c_nought := fun X W c =>
  sb_cons (ss_ret (c.make T (ok_Measure___init__ T S) (mkr_Measure S) rfl rfl rfl rfl rfl rfl rfl (.cons rfl (sa_cons rfl se_int sa_nil)) sk_nil)) sb_nil
theorem ok_nought (T : Tb (gq K) mg tFrees tGlobs) (S : Says K) : FnC (gq K) P w mg base fi_nought 4 (He.ga K "nought") sh_nought :=
  FnC.of (dfl := ([] : List D)) (S.says.def_ 23 (d := d_nought) rfl) rfl fs_nought (b_nought T S) (fun fd F => ⟨bnd0 F (fun _ _ _ _ _ _ us ws hu hw => match us, ws, hu, hw with | [], [], _, _ => ⟨_, rfl, rfl⟩), trivial⟩)
abbrev sh_unit : List (Nat × List Str) := [(0, [])]
abbrev N_unit : List Str := []
theorem fs_unit : FnScope N_unit [] (defScope st_unit) := ⟨rfl, rfl, rfl, by decide +kernel, rfl, by decide +kernel, by decide +kernel⟩
theorem b_unit (T : Tb (gq K) mg tFrees tGlobs) (S : Says K) : ∀ X W, Ct (gq K) P w mg base 3 N_unit (defScope st_unit) true X W → SB (gq K) X W (defBody st_unit) c_unit := fun X W c =>
  sb_cons (ss_ret (c.make T (ok_Measure___init__ T S) (mkr_Measure S) rfl rfl rfl rfl rfl rfl rfl (.cons rfl (sa_cons rfl se_int sa_nil)) sk_nil)) sb_nil
theorem ok_unit (T : Tb (gq K) mg tFrees tGlobs) (S : Says K) : FnC (gq K) P w mg base fi_unit 4 (He.ga K "unit") sh_unit :=
  FnC.of (dfl := ([] : List D)) (S.says.def_ 24 (d := d_unit) rfl) rfl fs_unit (b_unit T S) (fun fd F => ⟨bnd0 F (fun _ _ _ _ _ _ us ws hu hw => match us, ws, hu, hw with | [], [], _, _ => ⟨_, rfl, rfl⟩), trivial⟩)
abbrev sh_Measure_minus : List (Nat × List Str) := [(2, [])]
abbrev N_Measure_minus : List Str := ["self", "other"]
theorem fs_Measure_minus : FnScope N_Measure_minus ["self", "other"] (defScope st_Measure_minus) := ⟨rfl, rfl, rfl, by decide +kernel, rfl, by decide +kernel, by decide +kernel⟩
theorem b_Measure_minus (T : Tb (gq K) mg tFrees tGlobs) (S : Says K) : ∀ X W, Ct (gq K) P w mg base 3 N_Measure_minus (defScope st_Measure_minus) true X W → SB (gq K) X W (defBody st_Measure_minus) c_Measure_minus := fun X W c =>
  sb_cons (ss_ret (c.make T (ok_Measure___init__ T S) (mkr_Measure S) rfl rfl rfl rfl rfl rfl rfl (.cons rfl (sa_cons rfl (se_bin ok_sub (se_bin ok_mul (c.attr (fldF S) (no_top S) (c.var rfl) rfl) (c.attr (fldF S) (no_bottom S) (c.var rfl) rfl)) (se_bin ok_mul (c.attr (fldF S) (no_top S) (c.var rfl) rfl) (c.attr (fldF S) (no_bottom S) (c.var rfl) rfl))) (sa_cons rfl (se_bin ok_mul (c.attr (fldF S) (no_bottom S) (c.var rfl) rfl) (c.attr (fldF S) (no_bottom S) (c.var rfl) rfl)) sa_nil))) sk_nil)) sb_nil
theorem ok_Measure_minus (T : Tb (gq K) mg tFrees tGlobs) (S : Says K) : FnC (gq K) P w mg base fi_Measure_minus 4 (He.ma K (He.ga K "Measure") "minus") sh_Measure_minus :=
  FnC.of (dfl := ([] : List D)) (S.says.def_ 25 (d := d_Measure_minus) rfl) rfl fs_Measure_minus (b_Measure_minus T S) (fun fd F => ⟨bnd0 F (fun _ _ _ _ _ _ us ws hu hw => match us, ws, hu, hw with | [_, _], [], _, _ => ⟨_, rfl, rfl⟩), trivial⟩)
theorem mtc_minus_ (T : Tb (gq K) mg tFrees tGlobs) (S : Says K) : ∀ c fi, mt_minus c = some fi → ∃ f, FnC (gq K) P w mg base fi 4 f [(2, [])] ∧ Cls (gq K).K ((gq K).cad c) ∧ Meth (gq K).K ((gq K).cad c) "minus" f ∧ ((gq K).fl c).contains "minus" = false
  | 0, fi, h => by
    cases h
    exact ⟨_, (ok_Measure_minus T S).sub 4 rfl (by decide +kernel), cls_all S 0 (by decide), He.meth_ok (rest_ok S.says 20 rfl), rfl⟩
  | 1, fi, h => by cases h
  | n + 2, fi, h => by cases h
theorem mtc_minus (T : Tb (gq K) mg tFrees tGlobs) (S : Says K) : MtC (gq K) P w mg base mt_minus "minus" 4 [(2, [])] := ⟨mtc_minus_ T S⟩
abbrev sh_Measure_plus : List (Nat × List Str) := [(2, [])]
abbrev N_Measure_plus : List Str := ["self", "other"]
theorem fs_Measure_plus : FnScope N_Measure_plus ["self", "other"] (defScope st_Measure_plus) := ⟨rfl, rfl, rfl, by decide +kernel, rfl, by decide +kernel, by decide +kernel⟩
theorem b_Measure_plus (T : Tb (gq K) mg tFrees tGlobs) (S : Says K) : ∀ X W, Ct (gq K) P w mg base 3 N_Measure_plus (defScope st_Measure_plus) true X W → SB (gq K) X W (defBody st_Measure_plus) c_Measure_plus := fun X W c =>
  sb_cons (ss_ret (c.make T (ok_Measure___init__ T S) (mkr_Measure S) rfl rfl rfl rfl rfl rfl rfl (.cons rfl (sa_cons rfl (se_bin (ok_add c.K) (se_bin ok_mul (c.attr (fldF S) (no_top S) (c.var rfl) rfl) (c.attr (fldF S) (no_bottom S) (c.var rfl) rfl)) (se_bin ok_mul (c.attr (fldF S) (no_top S) (c.var rfl) rfl) (c.attr (fldF S) (no_bottom S) (c.var rfl) rfl))) (sa_cons rfl (se_bin ok_mul (c.attr (fldF S) (no_bottom S) (c.var rfl) rfl) (c.attr (fldF S) (no_bottom S) (c.var rfl) rfl)) sa_nil))) sk_nil)) sb_nil
theorem ok_Measure_plus (T : Tb (gq K) mg tFrees tGlobs) (S : Says K) : FnC (gq K) P w mg base fi_Measure_plus 4 (He.ma K (He.ga K "Measure") "plus") sh_Measure_plus :=
  FnC.of (dfl := ([] : List D)) (S.says.def_ 26 (d := d_Measure_plus) rfl) rfl fs_Measure_plus (b_Measure_plus T S) (fun fd F => ⟨bnd0 F (fun _ _ _ _ _ _ us ws hu hw => match us, ws, hu, hw with | [_, _], [], _, _ => ⟨_, rfl, rfl⟩), trivial⟩)
theorem mtc_plus_ (T : Tb (gq K) mg tFrees tGlobs) (S : Says K) : ∀ c fi, mt_plus c = some fi → ∃ f, FnC (gq K) P w mg base fi 4 f [(2, [])] ∧ Cls (gq K).K ((gq K).cad c) ∧ Meth (gq K).K ((gq K).cad c) "plus" f ∧ ((gq K).fl c).contains "plus" = false
  | 0, fi, h => by
    cases h
    exact ⟨_, (ok_Measure_plus T S).sub 4 rfl (by decide +kernel), cls_all S 0 (by decide), He.meth_ok (rest_ok S.says 21 rfl), rfl⟩
  | 1, fi, h => by cases h
  | n + 2, fi, h => by cases h
theorem mtc_plus (T : Tb (gq K) mg tFrees tGlobs) (S : Says K) : MtC (gq K) P w mg base mt_plus "plus" 4 [(2, [])] := ⟨mtc_plus_ T S⟩
abbrev sh_Measure_parted : List (Nat × List Str) := [(1, [])]
abbrev N_Measure_parted : List Str := ["self", "many"]
theorem fs_Measure_parted : FnScope N_Measure_parted ["self", "many"] (defScope st_Measure_parted) := ⟨rfl, rfl, rfl, by decide +kernel, rfl, by decide +kernel, by decide +kernel⟩
theorem b_Measure_parted (T : Tb (gq K) mg tFrees tGlobs) (S : Says K) : ∀ X W, Ct (gq K) P w mg base 3 N_Measure_parted (defScope st_Measure_parted) true X W → SB (gq K) X W (defBody st_Measure_parted) c_Measure_parted := fun X W c =>
  sb_cons (ss_ret (c.make T (ok_Measure___init__ T S) (mkr_Measure S) rfl rfl rfl rfl rfl rfl rfl (.cons rfl (sa_cons rfl (c.attr (fldF S) (no_top S) (c.var rfl) rfl) (sa_cons rfl (se_bin ok_mul (c.attr (fldF S) (no_bottom S) (c.var rfl) rfl) (c.var rfl)) sa_nil))) sk_nil)) sb_nil
theorem ok_Measure_parted (T : Tb (gq K) mg tFrees tGlobs) (S : Says K) : FnC (gq K) P w mg base fi_Measure_parted 4 (He.ma K (He.ga K "Measure") "parted") sh_Measure_parted :=
  FnC.of (dfl := ([.int 2] : List D)) (S.says.def_ 27 (d := d_Measure_parted) rfl) rfl fs_Measure_parted (b_Measure_parted T S) (fun fd F => ⟨bnd1 F (by intro h; cases h) (fun _ _ _ _ _ _ _ us its ws hu hi hw => match us, its, ws, hu, hi, hw with | [_], [_], [], _, _, _ => ⟨_, rfl, _, rfl, rfl⟩), trivial⟩)
theorem mtc_parted_ (T : Tb (gq K) mg tFrees tGlobs) (S : Says K) : ∀ c fi, mt_parted c = some fi → ∃ f, FnC (gq K) P w mg base fi 4 f [(1, [])] ∧ Cls (gq K).K ((gq K).cad c) ∧ Meth (gq K).K ((gq K).cad c) "parted" f ∧ ((gq K).fl c).contains "parted" = false
  | 0, fi, h => by
    cases h
    exact ⟨_, (ok_Measure_parted T S).sub 4 rfl (by decide +kernel), cls_all S 0 (by decide), He.meth_ok (rest_ok S.says 22 rfl), rfl⟩
  | 1, fi, h => by cases h
  | n + 2, fi, h => by cases h
theorem mtc_parted (T : Tb (gq K) mg tFrees tGlobs) (S : Says K) : MtC (gq K) P w mg base mt_parted "parted" 4 [(1, [])] := ⟨mtc_parted_ T S⟩
abbrev sh_midst : List (Nat × List Str) := [(2, [])]
abbrev N_midst : List Str := ["here", "there"]
theorem fs_midst : FnScope N_midst ["here", "there"] (defScope st_midst) := ⟨rfl, rfl, rfl, by decide +kernel, rfl, by decide +kernel, by decide +kernel⟩
theorem b_midst (T : Tb (gq K) mg tFrees tGlobs) (S : Says K) : ∀ X W, Ct (gq K) P w mg base 4 N_midst (defScope st_midst) true X W → SB (gq K) X W (defBody st_midst) c_midst := fun X W c =>
  sb_cons (ss_ret (c.meth (mtc_parted T S) rfl rfl rfl rfl rfl (c.meth (mtc_plus T S) rfl rfl rfl rfl rfl (c.var rfl) (.cons rfl (sa_cons rfl (c.var rfl) sa_nil)) sk_nil) .nil sk_nil)) sb_nil
theorem ok_midst (T : Tb (gq K) mg tFrees tGlobs) (S : Says K) : FnC (gq K) P w mg base fi_midst 5 (He.ga K "midst") sh_midst :=
  FnC.of (dfl := ([] : List D)) (S.says.def_ 28 (d := d_midst) rfl) rfl fs_midst (b_midst T S) (fun fd F => ⟨bnd0 F (fun _ _ _ _ _ _ us ws hu hw => match us, ws, hu, hw with | [_, _], [], _, _ => ⟨_, rfl, rfl⟩), trivial⟩)
abbrev sh_inner : List (Nat × List Str) := [(1, [])]
abbrev N_inner : List Str := ["stretch"]
theorem fs_inner : FnScope N_inner ["stretch"] (defScope st_inner) := ⟨rfl, rfl, rfl, by decide +kernel, rfl, by decide +kernel, by decide +kernel⟩
theorem b_inner (T : Tb (gq K) mg tFrees tGlobs) (S : Says K) : ∀ X W, Ct (gq K) P w mg base 5 N_inner (defScope st_inner) true X W → SB (gq K) X W (defBody st_inner) c_inner := fun X W c =>
  sb_cons (ss_if (st_pw (sw_and (st_cmp ok_is (c.attr (fldF S) (no_low S) (c.var rfl) rfl) se_non rfl) (sw_one _ (st_cmp ok_is (c.attr (fldF S) (no_high S) (c.var rfl) rfl) se_non rfl)))) (sb_cons (ss_ret (c.call T (ok_nought T S) rfl rfl rfl rfl rfl .nil sk_nil)) sb_nil) sb_nil) (sb_cons (ss_if (st_cmp ok_is (c.attr (fldF S) (no_low S) (c.var rfl) rfl) se_non rfl) (sb_cons (ss_ret (c.meth (mtc_minus T S) rfl rfl rfl rfl rfl (c.attr (fldF S) (no_high S) (c.var rfl) rfl) (.cons rfl (sa_cons rfl (c.call T (ok_unit T S) rfl rfl rfl rfl rfl .nil sk_nil) sa_nil)) sk_nil)) sb_nil) sb_nil) (sb_cons (ss_if (st_cmp ok_is (c.attr (fldF S) (no_high S) (c.var rfl) rfl) se_non rfl) (sb_cons (ss_ret (c.meth (mtc_plus T S) rfl rfl rfl rfl rfl (c.attr (fldF S) (no_low S) (c.var rfl) rfl) (.cons rfl (sa_cons rfl (c.call T (ok_unit T S) rfl rfl rfl rfl rfl .nil sk_nil) sa_nil)) sk_nil)) sb_nil) sb_nil) (sb_cons (ss_ret (c.call T (ok_midst T S) rfl rfl rfl rfl rfl (.cons rfl (sa_cons rfl (c.attr (fldF S) (no_low S) (c.var rfl) rfl) (sa_cons rfl (c.attr (fldF S) (no_high S) (c.var rfl) rfl) sa_nil))) sk_nil)) sb_nil)))
theorem ok_inner (T : Tb (gq K) mg tFrees tGlobs) (S : Says K) : FnC (gq K) P w mg base fi_inner 6 (He.ga K "inner") sh_inner :=
  FnC.of (dfl := ([] : List D)) (S.says.def_ 29 (d := d_inner) rfl) rfl fs_inner (b_inner T S) (fun fd F => ⟨bnd0 F (fun _ _ _ _ _ _ us ws hu hw => match us, ws, hu, hw with | [_], [], _, _ => ⟨_, rfl, rfl⟩), trivial⟩)
abbrev sh_Stretch_shared : List (Nat × List Str) := [(2, []), (1, ["other"])]
abbrev N_Stretch_shared : List Str := ["self", "other", "both"]
theorem fs_Stretch_shared : FnScope N_Stretch_shared ["self", "other"] (defScope st_Stretch_shared) := ⟨rfl, rfl, rfl, by decide +kernel, rfl, by decide +kernel, by decide +kernel⟩
theorem b_Stretch_shared (T : Tb (gq K) mg tFrees tGlobs) (S : Says K) : ∀ X W, Ct (gq K) P w mg base 6 N_Stretch_shared (defScope st_Stretch_shared) true X W → SB (gq K) X W (defBody st_Stretch_shared) c_Stretch_shared := fun X W c =>
  sb_cons (c.set rfl rfl (c.meth (mtc_cut T S) rfl rfl rfl rfl rfl (c.var rfl) (.cons rfl (sa_cons rfl (c.var rfl) sa_nil)) sk_nil)) (sb_cons (ss_ret (se_if (st_cmp ok_is (c.var rfl) se_non rfl) se_non (c.call T (ok_inner T S) rfl rfl rfl rfl rfl (.cons rfl (sa_cons rfl (c.var rfl) sa_nil)) sk_nil))) sb_nil)
theorem ok_Stretch_shared (T : Tb (gq K) mg tFrees tGlobs) (S : Says K) : FnC (gq K) P w mg base fi_Stretch_shared 7 (He.ma K (He.ga K "Stretch") "shared") sh_Stretch_shared :=
  FnC.of (dfl := ([] : List D)) (S.says.def_ 30 (d := d_Stretch_shared) rfl) rfl fs_Stretch_shared (b_Stretch_shared T S) (fun fd F => ⟨bnd0 F (fun _ _ _ _ _ _ us ws hu hw => match us, ws, hu, hw with | [_, _], [], _, _ => ⟨_, rfl, rfl⟩), ⟨bnd0 F (fun _ _ _ _ _ _ us ws hu hw => match us, ws, hu, hw with | [_], [_], _, _ => ⟨_, rfl, rfl⟩), trivial⟩⟩)
theorem mtc_shared_ (T : Tb (gq K) mg tFrees tGlobs) (S : Says K) : ∀ c fi, mt_shared c = some fi → ∃ f, FnC (gq K) P w mg base fi 7 f [(2, []), (1, ["other"])] ∧ Cls (gq K).K ((gq K).cad c) ∧ Meth (gq K).K ((gq K).cad c) "shared" f ∧ ((gq K).fl c).contains "shared" = false
  | 1, fi, h => by
    cases h
    exact ⟨_, (ok_Stretch_shared T S).sub 7 rfl (by decide +kernel), cls_all S 1 (by decide), He.meth_ok (rest_ok S.says 23 rfl), rfl⟩
  | 0, fi, h => by cases h
  | n + 2, fi, h => by cases h
theorem mtc_shared (T : Tb (gq K) mg tFrees tGlobs) (S : Says K) : MtC (gq K) P w mg base mt_shared "shared" 7 [(2, []), (1, ["other"])] := ⟨mtc_shared_ T S⟩
abbrev sh_l_in : List (Nat × List Str) := [(2, [])]
abbrev N_l_in : List Str := ["_law_ends", "_law_point", "_law_a", "_law_b", "_law_ia", "_law_ib"]
theorem fs_l_in : FnScope N_l_in ["_law_ends", "_law_point"] (defScope st_l_in) := ⟨rfl, rfl, rfl, by decide +kernel, rfl, by decide +kernel, by decide +kernel⟩
theorem b_l_in (T : Tb (gq K) mg tFrees tGlobs) (S : Says K) : ∀ X W, Ct (gq K) P w mg base 1 N_l_in (defScope st_l_in) true X W → SB (gq K) X W (defBody st_l_in) c_l_in := fun X W c =>
  sb_cons (c.tupS (.cons rfl (c.sgName rfl) (.cons rfl (c.sgName rfl) (.cons rfl (c.sgName rfl) (.cons rfl (c.sgName rfl) .nil)))) rfl (c.var rfl)) (sb_cons (ss_if (st_pw (sw_and (st_cmp ok_isnot (c.var rfl) se_non rfl) (sw_and (st_not (st_val (c.call T (ok_l_below T S) rfl rfl rfl rfl rfl (.cons rfl (sa_cons rfl (c.var rfl) (sa_cons rfl (c.var rfl) sa_nil))) sk_nil) (fun _ => rfl))) (sw_one _ (st_not (st_pw (sw_and (st_val (c.var rfl) (fun _ => rfl)) (sw_one _ (st_val (c.call T (ok_l_same T S) rfl rfl rfl rfl rfl (.cons rfl (sa_cons rfl (c.var rfl) (sa_cons rfl (c.var rfl) sa_nil))) sk_nil) (fun _ => rfl)))))))))) (sb_cons (ss_ret se_bl) sb_nil) sb_nil) (sb_cons (ss_ret (se_or (se_cmp ok_is (c.var rfl) se_non rfl) (se_or (c.call T (ok_l_below T S) rfl rfl rfl rfl rfl (.cons rfl (sa_cons rfl (c.var rfl) (sa_cons rfl (c.var rfl) sa_nil))) sk_nil) (se_one (se_and (c.var rfl) (se_one (c.call T (ok_l_same T S) rfl rfl rfl rfl rfl (.cons rfl (sa_cons rfl (c.var rfl) (sa_cons rfl (c.var rfl) sa_nil))) sk_nil))))))) sb_nil))
theorem ok_l_in (T : Tb (gq K) mg tFrees tGlobs) (S : Says K) : FnC (gq K) P w mg base fi_l_in 2 (He.ga K "_law_in") sh_l_in :=
  FnC.of (dfl := ([] : List D)) (S.says.def_ 31 (d := d_l_in) rfl) rfl fs_l_in (b_l_in T S) (fun fd F => ⟨bnd0 F (fun _ _ _ _ _ _ us ws hu hw => match us, ws, hu, hw with | [_, _], [], _, _ => ⟨_, rfl, rfl⟩), trivial⟩)
abbrev sh_l_shared_right : List (Nat × List Str) := [(4, [])]
abbrev N_l_shared_right : List Str := ["_law_found", "_law_one", "_law_two", "_law_due"]
theorem fs_l_shared_right : FnScope N_l_shared_right ["_law_found", "_law_one", "_law_two", "_law_due"] (defScope st_l_shared_right) := ⟨rfl, rfl, rfl, by decide +kernel, rfl, by decide +kernel, by decide +kernel⟩
theorem b_l_shared_right (T : Tb (gq K) mg tFrees tGlobs) (S : Says K) : ∀ X W, Ct (gq K) P w mg base 2 N_l_shared_right (defScope st_l_shared_right) true X W → SB (gq K) X W (defBody st_l_shared_right) c_l_shared_right := fun X W c =>
  sb_cons (ss_if (st_not (st_val (c.var rfl) (fun _ => rfl))) (sb_cons (ss_ret (se_cmp ok_is (c.var rfl) se_non rfl)) sb_nil) sb_nil) (sb_cons (ss_if (st_pw (sw_or (st_not (st_val (c.callB T (co_isi c.K (kitF S)) rfl rfl rfl rfl (sa_cons rfl (c.var rfl) (sa_cons rfl (c.clsName T rfl rfl rfl) sa_nil))) (fun _ => rfl))) (sw_one _ (st_cmp ok_lt (c.attr (fldF S) (no_bottom S) (c.var rfl) rfl) se_int rfl)))) (sb_cons (ss_ret se_bl) sb_nil) sb_nil) (sb_cons (ss_ret (se_and (c.call T (ok_l_in T S) rfl rfl rfl rfl rfl (.cons rfl (sa_cons rfl (c.var rfl) (sa_cons rfl (se_tup (sa_cons rfl (c.attr (fldF S) (no_top S) (c.var rfl) rfl) (sa_cons rfl (c.attr (fldF S) (no_bottom S) (c.var rfl) rfl) sa_nil))) sa_nil))) sk_nil) (se_one (c.call T (ok_l_in T S) rfl rfl rfl rfl rfl (.cons rfl (sa_cons rfl (c.var rfl) (sa_cons rfl (se_tup (sa_cons rfl (c.attr (fldF S) (no_top S) (c.var rfl) rfl) (sa_cons rfl (c.attr (fldF S) (no_bottom S) (c.var rfl) rfl) sa_nil))) sa_nil))) sk_nil)))) sb_nil))
theorem ok_l_shared_right (T : Tb (gq K) mg tFrees tGlobs) (S : Says K) : FnC (gq K) P w mg base fi_l_shared_right 3 (He.ga K "_law_shared_right") sh_l_shared_right :=
  FnC.of (dfl := ([] : List D)) (S.says.def_ 32 (d := d_l_shared_right) rfl) rfl fs_l_shared_right (b_l_shared_right T S) (fun fd F => ⟨bnd0 F (fun _ _ _ _ _ _ us ws hu hw => match us, ws, hu, hw with | [_, _, _, _], [], _, _ => ⟨_, rfl, rfl⟩), trivial⟩)
abbrev sh_law : List (Nat × List Str) := [(1, [])]
abbrev N_law : List Str := ["_law_script", "_law_k", "_law_hand", "_law_one", "_law_two", "_law_due", "_law_here", "_law_there", "_law_found", "_law_one_found"]
theorem fs_law : FnScope N_law ["_law_script"] (defScope st_law) := ⟨rfl, rfl, rfl, by decide +kernel, rfl, by decide +kernel, by decide +kernel⟩
theorem b_law (T : Tb (gq K) mg tFrees tGlobs) (S : Says K) : ∀ X W, Ct (gq K) P w mg base 7 N_law (defScope st_law) true X W → SB (gq K) X W (defBody st_law) c_law := fun X W c =>
  sb_cons (ss_for (c.po rfl) c.calm (si_range1 (c.gl rfl).1 (by rw [c.hmg]; exact T.fr _ rfl) rfl (se_bin (ok_add c.K) se_int (c.callB T (co_min c.calm) rfl rfl rfl rfl (sa_cons rfl se_int (sa_cons rfl (c.callB T (co_len c.K) rfl rfl rfl rfl (sa_cons rfl (c.var rfl) sa_nil)) sa_nil))))) (sl := [1]) (c.sgName rfl) (sb_cons (c.set rfl rfl (c.call T (ok_l_hand_of T S) rfl rfl rfl rfl rfl (.cons rfl (sa_cons rfl (c.var rfl) (sa_cons rfl (c.var rfl) sa_nil))) sk_nil)) (sb_cons (c.tupS (.cons rfl (c.sgName rfl) (.cons rfl (c.sgName rfl) .nil)) rfl (c.call T (ok_l_pair_of T S) rfl rfl rfl rfl rfl (.cons rfl (sa_cons rfl (c.var rfl) sa_nil)) sk_nil)) (sb_cons (c.tupT (.cons rfl (c.sgName rfl) (.cons rfl (c.sgName rfl) (.cons rfl (c.sgName rfl) .nil))) rfl (se_tup (sa_cons rfl (se_cmp ok_isnot (c.call T (ok_l_cut T S) rfl rfl rfl rfl rfl (.cons rfl (sa_cons rfl (c.var rfl) (sa_cons rfl (c.var rfl) sa_nil))) sk_nil) se_non rfl) (sa_cons rfl (c.call T (ok_l_made T S) rfl rfl rfl rfl rfl (.cons rfl (sa_cons rfl (c.var rfl) sa_nil)) sk_nil) (sa_cons rfl (c.call T (ok_l_made T S) rfl rfl rfl rfl rfl (.cons rfl (sa_cons rfl (c.var rfl) sa_nil)) sk_nil) sa_nil))))) (sb_cons (ss_if (st_cmp (ok_ne c.K c.hu64) (se_lst (sa_cons rfl (c.meth (mtc_meets T S) rfl rfl rfl rfl rfl (c.var rfl) (.cons rfl (sa_cons rfl (c.var rfl) sa_nil)) sk_nil) (sa_cons rfl (c.meth (mtc_meets T S) rfl rfl rfl rfl rfl (c.var rfl) (.cons rfl (sa_cons rfl (c.var rfl) sa_nil)) sk_nil) (sa_cons rfl (c.meth (mtc_meets T S) rfl rfl rfl rfl rfl (c.var rfl) .nil (sk_cons (c.var rfl) sk_nil)) sa_nil)))) (se_bin ok_mul (se_lst (sa_cons rfl (c.var rfl) sa_nil)) se_int) rfl) (sb_cons (ss_ret se_bl) sb_nil) sb_nil) (sb_cons (ss_if (st_pw (sw_or (st_not (st_val (c.callB T (co_isi c.K (kitF S)) rfl rfl rfl rfl (sa_cons rfl (c.meth (mtc_meets T S) rfl rfl rfl rfl rfl (c.var rfl) (.cons rfl (sa_cons rfl (c.var rfl) sa_nil)) sk_nil) (sa_cons rfl (c.tyName T rfl rfl rfl) sa_nil))) (fun _ => rfl))) (sw_one _ (st_cmp ok_isnotB (c.meth (mtc_meets T S) rfl rfl rfl rfl rfl (c.var rfl) (.cons rfl (sa_cons rfl (c.var rfl) sa_nil)) sk_nil) se_bl rfl)))) (sb_cons (ss_ret se_bl) sb_nil) sb_nil) (sb_cons (c.set rfl rfl (se_lst (sa_cons rfl (c.meth (mtc_shared T S) rfl rfl rfl rfl rfl (c.var rfl) (.cons rfl (sa_cons rfl (c.var rfl) sa_nil)) sk_nil) (sa_cons rfl (c.meth (mtc_shared T S) rfl rfl rfl rfl rfl (c.var rfl) .nil (sk_cons (c.var rfl) sk_nil)) sa_nil)))) (sb_cons (ss_if (st_not (st_val (c.callB T (co_all c.calm) rfl rfl rfl rfl (sa_cons rfl (c.comp0 (sl := [9]) (ow := [("_law_one_found", 9)]) (si_val c.K (c.var rfl)) rfl rfl rfl rfl (fun X W c => c.sgName rfl) (fun X W c => c.call T (ok_l_shared_right T S) rfl rfl rfl rfl rfl (.cons rfl (sa_cons rfl (c.var rfl) (sa_cons rfl (c.var rfl) (sa_cons rfl (c.var rfl) (sa_cons rfl (c.var rfl) sa_nil))))) sk_nil)) sa_nil)) (fun _ => rfl))) (sb_cons (ss_ret se_bl) sb_nil) sb_nil) (sb_cons (ss_if (st_not (st_val (c.call T (ok_l_shared_right T S) rfl rfl rfl rfl rfl (.cons rfl (sa_cons rfl (c.meth (mtc_shared T S) rfl rfl rfl rfl rfl (c.var rfl) (.cons rfl (sa_cons rfl (c.var rfl) sa_nil)) sk_nil) (sa_cons rfl (c.var rfl) (sa_cons rfl (c.var rfl) (sa_cons rfl se_bl sa_nil))))) sk_nil) (fun _ => rfl))) (sb_cons (ss_ret se_bl) sb_nil) sb_nil) sb_nil)))))))) rfl) (sb_cons (ss_ret se_bl) sb_nil)
theorem ok_law (T : Tb (gq K) mg tFrees tGlobs) (S : Says K) : FnC (gq K) P w mg base fi_law 8 (He.ga K "law") sh_law :=
  FnC.of (dfl := ([] : List D)) (S.says.def_ 33 (d := d_law) rfl) rfl fs_law (b_law T S) (fun fd F => ⟨bnd0 F (fun _ _ _ _ _ _ us ws hu hw => match us, ws, hu, hw with | [_], [], _, _ => ⟨_, rfl, rfl⟩), trivial⟩)
end
end Law

set_option Elab.async false
set_option linter.all false
set_option maxRecDepth 100000
set_option maxHeartbeats 0
/-! the head -/
namespace Law
open PySem PySem.Spec PyProof.Rows L2 Sz

abbrev RR : PySem.W.OpenRow := PySem.W.OpenLaw.row PySem.Challenge.rw_sizeladders_k10_whether_two_meet
abbrev hk : PySem.W.Hook := hookZ 6 tChk (faOf tFrees tGlobs tRest) tDefs
def ob (s : PySem.W.SharedT) : He.AlD := obsZG 6 tChk (faOf tFrees tGlobs tRest) tDefs (HandSHeadRun.getT s)
theorem ob_eq (s : PySem.W.SharedT) : ob s = hk.obs s.abs := obsZG_eq (HandSHeadRun.getT_eq s)
def tLoose : List Str := ["_wall", "__name__", "LadderError", "NoMeasure", "NoStretch", "NoBottom", "is_whole", "common_part", "Measure", "nought", "unit", "midst", "is_end", "is_some", "end_text", "Stretch", "later_begin", "earlier_end", "inner", "_law_hand_of", "_law_take", "_law_end_of", "_law_below", "_law_same", "_law_measure", "_law_some", "_law_ends_of", "_law_made", "_law_in", "_law_cut", "_law_pair_of", "_law_shared_right"]
theorem run (w : World) : HandSHeadRun.RunEq RR (PySem.W.view RR.prog [35]) hk ob 4000 tLoose w := by
  intro os
  kernel_rfl
/-- the law from its promise -/
theorem whole (hlaw : ∀ ns : List Int, ns.length ≤ 63 → fi_law.sem [.val (.scr ns)] [] = some (.ok (.val (.bl true)), [])) : PySem.Challenge.rw_sizeladders_k10_whether_two_meet.Holds := by
  open PySem.W PySem.Calls PyProof.Rows in
  w_on; o_law
  refine HandSHeadRun.head_any (r := OpenLaw.row PySem.Challenge.rw_sizeladders_k10_whether_two_meet) (q := view (OpenLaw.row PySem.Challenge.rw_sizeladders_k10_whether_two_meet).prog [35]) (H := hk) (ob := ob) (M := 4000) (loose := tLoose) (d := HandSHeadRun.topDef (OpenLaw.row PySem.Challenge.rw_sizeladders_k10_whether_two_meet).prog 35) (kwd := []) ob_eq
    (by kernel_rfl) (fun s => by kernel_rfl) run (by kernel_rfl) (by kernel_rfl) (by kernel_rfl) (by rfl) (by first | assumption | decide +kernel) (by decide +kernel) ⟨rfl, rfl, rfl, rfl, rfl, by decide +kernel⟩ ?hw ?hc
  case hw => w_witness2
  case hc =>
    refine L2.walk_ofE (l := PySem.Challenge.rw_sizeladders_k10_whether_two_meet) (n := 63) (k := 8) (x := "_law_script") (CX := L2.CX0) rfl (by decide) (by kernel_rfl) ⟨rfl, by decide, by decide⟩ ?F (fun _ _ _ _ z => z)
    intro w mg fa h Y G hmg0
    obtain ⟨K, KX, S⟩ := Y
    have hmg : mg ("law" : PySem.Str) = some (.ref fa) := by
      have e : (HandSHeadRun.topDef (OpenLaw.row PySem.Challenge.rw_sizeladders_k10_whether_two_meet).prog 35).name = ("law" : PySem.Str) := by kernel_rfl
      rw [← e]
      exact hmg0
    have T : Tb (gq K) mg tFrees tGlobs := tb_of rfl KX G S.says
    obtain ⟨fd, F⟩ := He.SaysD.def_ S.says 33 (d := d_law) rfl
    have e := hmg.symm.trans (T.gl "law" rfl).1
    cases e
    have b := FunD.bindsA (ps := ["_law_script"]) F fun _ _ _ _ _ _ us hl => match us, hl with | [_], _ => rfl
    exact ⟨K, fd, fun vs H Q _ => spOf (gq K) 1 fi_law.sem vs H Q fun _ _ _ => False, KX, fun s v => b s [v] rfl, fun H a ns hl _ hS => sp_law (g := gq K) hS (hlaw ns hl), fun base _ _ => fnok_cx0 (fn_ok (g := gq K) F fs_law (b_law T S))⟩
end Law

set_option Elab.async false
set_option linter.all false
set_option maxRecDepth 100000
set_option maxHeartbeats 4000000
set_option exponentiation.threshold 100000
namespace Law
open PySem PySem.Spec L2 Sz
theorem fmod_range {i m : Int} (h : 0 < m) : 0 ≤ i.fmod m ∧ i.fmod m < m := ⟨Int.fmod_nonneg_of_pos i h, Int.fmod_lt_of_pos i h⟩
theorem take_spec {μ : Sto} {k n : Nat} {m : Int} (h : HandAt μ k n) (hn : n < 2 ^ 200) (hm : 0 < m) (hl : Bd 8000 m) :
    ∃ d μ', fi_l_take.sem [.cell k, .val (.int m)] μ = some (.ok (.val (.int d)), μ') ∧ 0 ≤ d ∧ d < m ∧ HandAt μ' k (n + 1) ∧ Upd k μ μ' := by
  obtain ⟨a, b, c, h1, h2, h3, h4, h5⟩ := h
  have hm0 : m ≠ 0 := by omega
  have e : fi_l_take.sem [.cell k, .val (.int m)] μ = finF μ.length (c_l_take [some (.cell k), some (.val (.int m)), none, none] μ) := rfl
  rw [e]
  unfold c_l_take
  by_cases ha : 0 < a
  · have q1 := mod_ii (i := a) hm0
    have q2 := fdiv_ii (i := a) 8000 hm0 hl
    have q3 : ∀ (s : S) (d : D) (ρ : En), rt s = .val d → ρ[0]? = some (some (.cell k)) → gSubM (mVar 0) (mK (.int 0)) s ρ μ = some (ρ, μ.set k (.lst ([D.int a, .int b, .int c].set 0 d))) := fun s d ρ hs hr =>
      gSub_cell hs (by rw [mVar_ap, hr]; rfl) rfl h1 rfl
    simp only [mVar_ap, slotM_some, List.getElem?_cons_zero, List.getElem?_cons_succ, List.set_cons_zero, List.set_cons_succ, mK_ap, andThen_ok, andThen_if, exThen_ok, exThen_if, vw_val, vw_fr, vw_cell, cellV_lst, cellV_frz, rt_val, rt_fr, rt_cell, fin2_ap, fin2K_some, opK_some, fin1_ap, op1K_some, mOp2_ap, mOp1_ap, add_ii, sub_ii, neg_i, not_b, lt_ii, le_ii, gt_ii, ge_ii, eq_ii, ne_ii, ix_lst, Sz.ix_tup, ix_scr, omap_some, atI0, atI1, atI2, bl?_bl, tBl_ap, tBlK_some, tNotM_ap, tAndM_ap, tOrM_ap, tTrue_ap, mIf_ap, mAnd_ap, mOr_ap, andK_some, orK_some, mArgs_nil, mArgs_cons, mOwns_nil, mOwns_cons, mList_ap, mTup_ap, mCallB_ap, finL1, finL2, finL3, finL4, finL5, finT2, finT3, vwK_some, vws_nil, vws_cons, opsK_some, finB_ap, len_scr, len_lst, len_tup, abs_i, min_ii, max_ii, int_b, int_i, seqK_nx, seqK_rt, seqK_ex, seqK_bk, seqK_ct, seqK_if, sSeq_ap, sNil_ap, sPass_ap, sBreak_ap, sCont_ap, sRet_ap, sRetN_ap, sIf_ap, sExpr_ap, nxK_some, sAsg_ap, gNm_ap, own_false, own_val, own_cell, own_fr, sPar2_ap, sPar3_ap, par2K_ap, par3K_ap, gVals_nil, gVK_some, gVals_cons, gTu_tup, gTu_lst, gTu_fr, finF_nx, finF_ex, finF_rt, finR_val, finR_fr, finF_if, mCallF_ap, mMake_ap, mMeth_ap, clsOf_obj, mAttr_ap, finA_obj, ite_true', ite_false', ite_T, ite_F, sFor_ap, iVal_ap, finI_lst, finI_fr, finI_tup, decide_eq_true_eq, Bool.not_eq_true', decide_eq_false_iff_not, Nat.reduceAdd, mLm_ap, lmK_cell, isLst_lst, finLm0, finLm1, finLm2, lm3K_lst, lm4K_some, get_end, set_end, is_non, isnot_non, isNon_non, isNon_int, isNon_tup, isNon_obj, eq_bb, Bool.not_true, Bool.not_false, h1, q1, q2, ha]
    rw [q3 _ _ _ rfl rfl]
    simp only [mVar_ap, slotM_some, List.getElem?_cons_zero, List.getElem?_cons_succ, List.set_cons_zero, List.set_cons_succ, mK_ap, andThen_ok, andThen_if, exThen_ok, exThen_if, vw_val, vw_fr, vw_cell, cellV_lst, cellV_frz, rt_val, rt_fr, rt_cell, fin2_ap, fin2K_some, opK_some, fin1_ap, op1K_some, mOp2_ap, mOp1_ap, add_ii, sub_ii, neg_i, not_b, lt_ii, le_ii, gt_ii, ge_ii, eq_ii, ne_ii, ix_lst, Sz.ix_tup, ix_scr, omap_some, atI0, atI1, atI2, bl?_bl, tBl_ap, tBlK_some, tNotM_ap, tAndM_ap, tOrM_ap, tTrue_ap, mIf_ap, mAnd_ap, mOr_ap, andK_some, orK_some, mArgs_nil, mArgs_cons, mOwns_nil, mOwns_cons, mList_ap, mTup_ap, mCallB_ap, finL1, finL2, finL3, finL4, finL5, finT2, finT3, vwK_some, vws_nil, vws_cons, opsK_some, finB_ap, len_scr, len_lst, len_tup, abs_i, min_ii, max_ii, int_b, int_i, seqK_nx, seqK_rt, seqK_ex, seqK_bk, seqK_ct, seqK_if, sSeq_ap, sNil_ap, sPass_ap, sBreak_ap, sCont_ap, sRet_ap, sRetN_ap, sIf_ap, sExpr_ap, nxK_some, sAsg_ap, gNm_ap, own_false, own_val, own_cell, own_fr, sPar2_ap, sPar3_ap, par2K_ap, par3K_ap, gVals_nil, gVK_some, gVals_cons, gTu_tup, gTu_lst, gTu_fr, finF_nx, finF_ex, finF_rt, finR_val, finR_fr, finF_if, mCallF_ap, mMake_ap, mMeth_ap, clsOf_obj, mAttr_ap, finA_obj, ite_true', ite_false', ite_T, ite_F, sFor_ap, iVal_ap, finI_lst, finI_fr, finI_tup, decide_eq_true_eq, Bool.not_eq_true', decide_eq_false_iff_not, Nat.reduceAdd, mLm_ap, lmK_cell, isLst_lst, finLm0, finLm1, finLm2, lm3K_lst, lm4K_some, get_end, set_end, is_non, isnot_non, isNon_non, isNon_int, isNon_tup, isNon_obj, eq_bb, Bool.not_true, Bool.not_false]
    have r := fmod_range (i := a) hm
    refine ⟨_, _, rfl, r.1, r.2, ?_, ?_⟩
    · rw [Upd.set.take]
      exact ⟨_, b, c, get_set h1, h2, h3, h4, by omega⟩
    · rw [Upd.set.take]
      exact Upd.set
  · have c1 : Bd 201 (c + 1) := by unfold Bd; omega
    have hb : Bd 61 b := by unfold Bd; omega
    have q3 : ∀ (s : S) (d : D) (ρ : En), rt s = .val d → ρ[0]? = some (some (.cell k)) → gSubM (mVar 0) (mK (.int 2)) s ρ μ = some (ρ, μ.set k (.lst ([D.int a, .int b, .int c].set 2 d))) := fun s d ρ hs hr =>
      gSub_cell hs (by rw [mVar_ap, hr]; rfl) rfl h1 rfl
    simp only [mVar_ap, slotM_some, List.getElem?_cons_zero, List.getElem?_cons_succ, List.set_cons_zero, List.set_cons_succ, mK_ap, andThen_ok, andThen_if, exThen_ok, exThen_if, vw_val, vw_fr, vw_cell, cellV_lst, cellV_frz, rt_val, rt_fr, rt_cell, fin2_ap, fin2K_some, opK_some, fin1_ap, op1K_some, mOp2_ap, mOp1_ap, add_ii, sub_ii, neg_i, not_b, lt_ii, le_ii, gt_ii, ge_ii, eq_ii, ne_ii, ix_lst, Sz.ix_tup, ix_scr, omap_some, atI0, atI1, atI2, bl?_bl, tBl_ap, tBlK_some, tNotM_ap, tAndM_ap, tOrM_ap, tTrue_ap, mIf_ap, mAnd_ap, mOr_ap, andK_some, orK_some, mArgs_nil, mArgs_cons, mOwns_nil, mOwns_cons, mList_ap, mTup_ap, mCallB_ap, finL1, finL2, finL3, finL4, finL5, finT2, finT3, vwK_some, vws_nil, vws_cons, opsK_some, finB_ap, len_scr, len_lst, len_tup, abs_i, min_ii, max_ii, int_b, int_i, seqK_nx, seqK_rt, seqK_ex, seqK_bk, seqK_ct, seqK_if, sSeq_ap, sNil_ap, sPass_ap, sBreak_ap, sCont_ap, sRet_ap, sRetN_ap, sIf_ap, sExpr_ap, nxK_some, sAsg_ap, gNm_ap, own_false, own_val, own_cell, own_fr, sPar2_ap, sPar3_ap, par2K_ap, par3K_ap, gVals_nil, gVK_some, gVals_cons, gTu_tup, gTu_lst, gTu_fr, finF_nx, finF_ex, finF_rt, finR_val, finR_fr, finF_if, mCallF_ap, mMake_ap, mMeth_ap, clsOf_obj, mAttr_ap, finA_obj, ite_true', ite_false', ite_T, ite_F, sFor_ap, iVal_ap, finI_lst, finI_fr, finI_tup, decide_eq_true_eq, Bool.not_eq_true', decide_eq_false_iff_not, Nat.reduceAdd, mLm_ap, lmK_cell, isLst_lst, finLm0, finLm1, finLm2, lm3K_lst, lm4K_some, get_end, set_end, is_non, isnot_non, isNon_non, isNon_int, isNon_tup, isNon_obj, eq_bb, Bool.not_true, Bool.not_false, h1, ha]
    rw [q3 _ _ _ rfl rfl]
    simp only [mVar_ap, slotM_some, List.getElem?_cons_zero, List.getElem?_cons_succ, List.set_cons_zero, List.set_cons_succ, mK_ap, andThen_ok, andThen_if, exThen_ok, exThen_if, vw_val, vw_fr, vw_cell, cellV_lst, cellV_frz, rt_val, rt_fr, rt_cell, fin2_ap, fin2K_some, opK_some, fin1_ap, op1K_some, mOp2_ap, mOp1_ap, add_ii, sub_ii, neg_i, not_b, lt_ii, le_ii, gt_ii, ge_ii, eq_ii, ne_ii, ix_lst, Sz.ix_tup, ix_scr, omap_some, atI0, atI1, atI2, bl?_bl, tBl_ap, tBlK_some, tNotM_ap, tAndM_ap, tOrM_ap, tTrue_ap, mIf_ap, mAnd_ap, mOr_ap, andK_some, orK_some, mArgs_nil, mArgs_cons, mOwns_nil, mOwns_cons, mList_ap, mTup_ap, mCallB_ap, finL1, finL2, finL3, finL4, finL5, finT2, finT3, vwK_some, vws_nil, vws_cons, opsK_some, finB_ap, len_scr, len_lst, len_tup, abs_i, min_ii, max_ii, int_b, int_i, seqK_nx, seqK_rt, seqK_ex, seqK_bk, seqK_ct, seqK_if, sSeq_ap, sNil_ap, sPass_ap, sBreak_ap, sCont_ap, sRet_ap, sRetN_ap, sIf_ap, sExpr_ap, nxK_some, sAsg_ap, gNm_ap, own_false, own_val, own_cell, own_fr, sPar2_ap, sPar3_ap, par2K_ap, par3K_ap, gVals_nil, gVK_some, gVals_cons, gTu_tup, gTu_lst, gTu_fr, finF_nx, finF_ex, finF_rt, finR_val, finR_fr, finF_if, mCallF_ap, mMake_ap, mMeth_ap, clsOf_obj, mAttr_ap, finA_obj, ite_true', ite_false', ite_T, ite_F, sFor_ap, iVal_ap, finI_lst, finI_fr, finI_tup, decide_eq_true_eq, Bool.not_eq_true', decide_eq_false_iff_not, Nat.reduceAdd, mLm_ap, lmK_cell, isLst_lst, finLm0, finLm1, finLm2, lm3K_lst, lm4K_some, get_end, set_end, is_non, isnot_non, isNon_non, isNon_int, isNon_tup, isNon_obj, eq_bb, Bool.not_true, Bool.not_false]
    have g1 := get_set (c := .lst [.int a, .int b, .int (c + 1)]) h1
    have u1 : Upd k μ (μ.set k (.lst [.int a, .int b, .int (c + 1)])) := Upd.set
    generalize μ.set k (.lst [.int a, .int b, .int (c + 1)]) = μ1 at g1 u1 ⊢
    have k1 : Bd 17 (65537 : Int) := by unfold Bd; decide
    have m1 := mul_bd 17 201 k1 c1
    have b1 := k1.mul c1
    have m2 := mul_bd (17 + 201) 201 b1 c1
    have b2 := b1.mul c1
    have b3 := ((hb.mono (show 61 ≤ 17 + 201 + 201 by decide)).add b2).add (show Bd (17 + 201 + 201 + 1) 11 by unfold Bd; decide)
    have p1 := pow_ii (j := 3) _ b3 (by decide) (by decide)
    generalize hz : (b + 65537 * (c + 1) * (c + 1) + 11) ^ (3 : Int).toNat = z at p1
    have d1 := mod_ii (i := z) (j := 2305843009213693921) (by decide)
    have r1 := fmod_range (i := z) (m := 2305843009213693921) (by decide)
    generalize z.fmod 2305843009213693921 = y at d1 r1
    have by1 : Bd 61 y := by unfold Bd; omega
    have d2 := mod_ii (i := y) (j := 1000003) (by decide)
    have r2 := fmod_range (i := y) (m := 1000003) (by decide)
    generalize y.fmod 1000003 = y2 at d2 r2
    have k2 : Bd 17 (99991 : Int) := by unfold Bd; decide
    have m3 := mul_bd 17 201 k2 c1
    have b4 := (show Bd (17 + 201) y2 by unfold Bd; omega).add (k2.mul c1)
    have m4 := mul_bd _ _ by1 b4
    generalize hw : y * (y2 + 99991 * (c + 1)) = x at m4
    have d3 := mod_ii (i := x) (j := 2305843009213693907) (by decide)
    generalize x.fmod 2305843009213693907 = t at d3
    have f1 := fdiv_ii (i := t) (j := 97) 7 (by decide) (by unfold Bd; decide)
    have f2 := fdiv_ii (i := t) (j := 1000033) 20 (by decide) (by unfold Bd; decide)
    have d4 := mod_ii (i := t.fdiv 97 + t.fdiv 1000033) hm0
    simp only [mVar_ap, slotM_some, List.getElem?_cons_zero, List.getElem?_cons_succ, List.set_cons_zero, List.set_cons_succ, mK_ap, andThen_ok, andThen_if, exThen_ok, exThen_if, vw_val, vw_fr, vw_cell, cellV_lst, cellV_frz, rt_val, rt_fr, rt_cell, fin2_ap, fin2K_some, opK_some, fin1_ap, op1K_some, mOp2_ap, mOp1_ap, add_ii, sub_ii, neg_i, not_b, lt_ii, le_ii, gt_ii, ge_ii, eq_ii, ne_ii, ix_lst, Sz.ix_tup, ix_scr, omap_some, atI0, atI1, atI2, bl?_bl, tBl_ap, tBlK_some, tNotM_ap, tAndM_ap, tOrM_ap, tTrue_ap, mIf_ap, mAnd_ap, mOr_ap, andK_some, orK_some, mArgs_nil, mArgs_cons, mOwns_nil, mOwns_cons, mList_ap, mTup_ap, mCallB_ap, finL1, finL2, finL3, finL4, finL5, finT2, finT3, vwK_some, vws_nil, vws_cons, opsK_some, finB_ap, len_scr, len_lst, len_tup, abs_i, min_ii, max_ii, int_b, int_i, seqK_nx, seqK_rt, seqK_ex, seqK_bk, seqK_ct, seqK_if, sSeq_ap, sNil_ap, sPass_ap, sBreak_ap, sCont_ap, sRet_ap, sRetN_ap, sIf_ap, sExpr_ap, nxK_some, sAsg_ap, gNm_ap, own_false, own_val, own_cell, own_fr, sPar2_ap, sPar3_ap, par2K_ap, par3K_ap, gVals_nil, gVK_some, gVals_cons, gTu_tup, gTu_lst, gTu_fr, finF_nx, finF_ex, finF_rt, finR_val, finR_fr, finF_if, mCallF_ap, mMake_ap, mMeth_ap, clsOf_obj, mAttr_ap, finA_obj, ite_true', ite_false', ite_T, ite_F, sFor_ap, iVal_ap, finI_lst, finI_fr, finI_tup, decide_eq_true_eq, Bool.not_eq_true', decide_eq_false_iff_not, Nat.reduceAdd, mLm_ap, lmK_cell, isLst_lst, finLm0, finLm1, finLm2, lm3K_lst, lm4K_some, get_end, set_end, is_non, isnot_non, isNon_non, isNon_int, isNon_tup, isNon_obj, eq_bb, Bool.not_true, Bool.not_false, g1, m1, m2, p1, d1, d2, m3, m4, d3, f1, f2, d4]
    have r := fmod_range (i := t.fdiv 97 + t.fdiv 1000033) hm
    refine ⟨_, _, rfl, r.1, r.2, ?_, ?_⟩
    · rw [u1.take]
      exact ⟨_, b, c + 1, g1, h2, h3, by omega, by omega⟩
    · rw [u1.take]
      exact u1
theorem take_call {μ : Sto} {k n : Nat} {m : Int} (h : HandAt μ k n) (hm : 0 < m) (hl : Bd 8000 m) (hn : n < 2 ^ 200 := by omega) :
    ∃ d μ', callF fi_l_take 2 [] [.cell k, .val (.int m)] [] μ = some (.ok (.val (.int d)), μ') ∧ 0 ≤ d ∧ d < m ∧ HandAt μ' k (n + 1) ∧ Upd k μ μ' := by
  rw [show callF fi_l_take 2 [] [.cell k, .val (.int m)] [] μ = fi_l_take.sem [.cell k, .val (.int m)] μ from callF_eq rfl rfl rfl]
  exact take_spec h hn hm hl
theorem hand_call {μ : Sto} {ns : List Int} {k : Nat} : ∃ a b : Int, callF fi_l_hand_of 2 [] [.val (.scr ns), .val (.int k)] [] μ = some (.ok (.fr [.int a, .int b, .int 0]), μ) ∧ 0 ≤ b ∧ b < 2 ^ 61 := by
  rw [show callF fi_l_hand_of 2 [] [.val (.scr ns), .val (.int k)] [] μ = fi_l_hand_of.sem [.val (.scr ns), .val (.int k)] μ from callF_eq rfl rfl rfl]
  have e : fi_l_hand_of.sem [.val (.scr ns), .val (.int k)] μ = finF μ.length (c_l_hand_of [some (.val (.scr ns)), some (.val (.int k)), none, none] μ) := rfl
  rw [e]
  unfold c_l_hand_of
  have key : ∀ z : Int, ∃ a b : Int, finF μ.length (seqK (some (.nx, [some (.val (.scr ns)), some (.val (.int k)), some (.val (.int z)), none], μ)) (sSeq (sAsg (gNm 3 false) (mOp2 dMod (mOp2 dAdd (mOp2 dAdd (mOp2 dMod (mVar 2) (mK (.int 2305843009213693951))) (mOp2 dMul (mK (.int 7919)) (mVar 1))) (mK (.int 3))) (mK (.int 2305843009213693951)))) (sSeq (sRet (mList [mOp2 dMul (mVar 2) (mCallB bInt [mOp2 dGe (mVar 2) (mOp2 dPow (mK (.int 10)) (mK (.int 18)))]), mVar 3, mK (.int 0)])) sNil))) = some (.ok (.fr [.int a, .int b, .int 0]), μ) ∧ 0 ≤ b ∧ b < 2 ^ 61 := by
    intro z
    have d1 := mod_ii (i := z) (j := 2305843009213693951) (by decide)
    have m1 : dMul (.int 7919) (.int (k : Int)) = some (.val (.int (7919 * (k : Int)))) := mul_ii (mulOk_left (by unfold Bd; decide))
    have d2 := mod_ii (i := z.fmod 2305843009213693951 + 7919 * (k : Int) + 3) (j := 2305843009213693951) (by decide)
    have r2 := fmod_range (i := z.fmod 2305843009213693951 + 7919 * (k : Int) + 3) (m := 2305843009213693951) (by decide)
    generalize (z.fmod 2305843009213693951 + 7919 * (k : Int) + 3).fmod 2305843009213693951 = b at d2 r2
    have p1 := pow_ii (i := 10) (j := 18) 4 (by unfold Bd; decide) (by decide) (by decide)
    have m2 : dMul (.int z) (.int (if decide ((10 : Int) ^ (18 : Int).toNat ≤ z) = true then 1 else 0)) = some (.val (.int (z * (if decide ((10 : Int) ^ (18 : Int).toNat ≤ z) = true then 1 else 0)))) := mul_ii (mulOk_right (by unfold Bd; split <;> decide))
    refine ⟨z * (if decide ((10 : Int) ^ (18 : Int).toNat ≤ z) = true then 1 else 0), b, ?_, r2.1, by omega⟩
    simp only [mVar_ap, slotM_some, List.getElem?_cons_zero, List.getElem?_cons_succ, List.set_cons_zero, List.set_cons_succ, mK_ap, andThen_ok, andThen_if, exThen_ok, exThen_if, vw_val, vw_fr, vw_cell, cellV_lst, cellV_frz, rt_val, rt_fr, rt_cell, fin2_ap, fin2K_some, opK_some, fin1_ap, op1K_some, mOp2_ap, mOp1_ap, add_ii, sub_ii, neg_i, not_b, lt_ii, le_ii, gt_ii, ge_ii, eq_ii, ne_ii, ix_lst, Sz.ix_tup, ix_scr, omap_some, atI0, atI1, atI2, bl?_bl, tBl_ap, tBlK_some, tNotM_ap, tAndM_ap, tOrM_ap, tTrue_ap, mIf_ap, mAnd_ap, mOr_ap, andK_some, orK_some, mArgs_nil, mArgs_cons, mOwns_nil, mOwns_cons, mList_ap, mTup_ap, mCallB_ap, finL1, finL2, finL3, finL4, finL5, finT2, finT3, vwK_some, vws_nil, vws_cons, opsK_some, finB_ap, len_scr, len_lst, len_tup, abs_i, min_ii, max_ii, int_b, int_i, seqK_nx, seqK_rt, seqK_ex, seqK_bk, seqK_ct, seqK_if, sSeq_ap, sNil_ap, sPass_ap, sBreak_ap, sCont_ap, sRet_ap, sRetN_ap, sIf_ap, sExpr_ap, nxK_some, sAsg_ap, gNm_ap, own_false, own_val, own_cell, own_fr, sPar2_ap, sPar3_ap, par2K_ap, par3K_ap, gVals_nil, gVK_some, gVals_cons, gTu_tup, gTu_lst, gTu_fr, finF_nx, finF_ex, finF_rt, finR_val, finR_fr, finF_if, mCallF_ap, mMake_ap, mMeth_ap, clsOf_obj, mAttr_ap, finA_obj, ite_true', ite_false', ite_T, ite_F, sFor_ap, iVal_ap, finI_lst, finI_fr, finI_tup, decide_eq_true_eq, Bool.not_eq_true', decide_eq_false_iff_not, Nat.reduceAdd, mLm_ap, lmK_cell, isLst_lst, finLm0, finLm1, finLm2, lm3K_lst, lm4K_some, get_end, set_end, is_non, isnot_non, isNon_non, isNon_int, isNon_tup, isNon_obj, eq_bb, Bool.not_true, Bool.not_false, d1, m1, d2, p1]
    simp only [decide_eq_true_eq] at m2
    simp only [mVar_ap, slotM_some, List.getElem?_cons_zero, List.getElem?_cons_succ, List.set_cons_zero, List.set_cons_succ, mK_ap, andThen_ok, andThen_if, exThen_ok, exThen_if, vw_val, vw_fr, vw_cell, cellV_lst, cellV_frz, rt_val, rt_fr, rt_cell, fin2_ap, fin2K_some, opK_some, fin1_ap, op1K_some, mOp2_ap, mOp1_ap, add_ii, sub_ii, neg_i, not_b, lt_ii, le_ii, gt_ii, ge_ii, eq_ii, ne_ii, ix_lst, Sz.ix_tup, ix_scr, omap_some, atI0, atI1, atI2, bl?_bl, tBl_ap, tBlK_some, tNotM_ap, tAndM_ap, tOrM_ap, tTrue_ap, mIf_ap, mAnd_ap, mOr_ap, andK_some, orK_some, mArgs_nil, mArgs_cons, mOwns_nil, mOwns_cons, mList_ap, mTup_ap, mCallB_ap, finL1, finL2, finL3, finL4, finL5, finT2, finT3, vwK_some, vws_nil, vws_cons, opsK_some, finB_ap, len_scr, len_lst, len_tup, abs_i, min_ii, max_ii, int_b, int_i, seqK_nx, seqK_rt, seqK_ex, seqK_bk, seqK_ct, seqK_if, sSeq_ap, sNil_ap, sPass_ap, sBreak_ap, sCont_ap, sRet_ap, sRetN_ap, sIf_ap, sExpr_ap, nxK_some, sAsg_ap, gNm_ap, own_false, own_val, own_cell, own_fr, sPar2_ap, sPar3_ap, par2K_ap, par3K_ap, gVals_nil, gVK_some, gVals_cons, gTu_tup, gTu_lst, gTu_fr, finF_nx, finF_ex, finF_rt, finR_val, finR_fr, finF_if, mCallF_ap, mMake_ap, mMeth_ap, clsOf_obj, mAttr_ap, finA_obj, ite_true', ite_false', ite_T, ite_F, sFor_ap, iVal_ap, finI_lst, finI_fr, finI_tup, decide_eq_true_eq, Bool.not_eq_true', decide_eq_false_iff_not, Nat.reduceAdd, mLm_ap, lmK_cell, isLst_lst, finLm0, finLm1, finLm2, lm3K_lst, lm4K_some, get_end, set_end, is_non, isnot_non, isNon_non, isNon_int, isNon_tup, isNon_obj, eq_bb, Bool.not_true, Bool.not_false, m2, List.take_length]
  by_cases hk : (k : Int) < ns.length
  · obtain ⟨z, hz, _⟩ := atI_mem (l := ns) (i := (k : Int)) (by omega) hk
    obtain ⟨a, b, h1, h2⟩ := key z
    refine ⟨a, b, ?_, h2⟩
    rw [← h1]
    simp only [mVar_ap, slotM_some, List.getElem?_cons_zero, List.getElem?_cons_succ, List.set_cons_zero, List.set_cons_succ, mK_ap, andThen_ok, andThen_if, exThen_ok, exThen_if, vw_val, vw_fr, vw_cell, cellV_lst, cellV_frz, rt_val, rt_fr, rt_cell, fin2_ap, fin2K_some, opK_some, fin1_ap, op1K_some, mOp2_ap, mOp1_ap, add_ii, sub_ii, neg_i, not_b, lt_ii, le_ii, gt_ii, ge_ii, eq_ii, ne_ii, ix_lst, Sz.ix_tup, ix_scr, omap_some, atI0, atI1, atI2, bl?_bl, tBl_ap, tBlK_some, tNotM_ap, tAndM_ap, tOrM_ap, tTrue_ap, mIf_ap, mAnd_ap, mOr_ap, andK_some, orK_some, mArgs_nil, mArgs_cons, mOwns_nil, mOwns_cons, mList_ap, mTup_ap, mCallB_ap, finL1, finL2, finL3, finL4, finL5, finT2, finT3, vwK_some, vws_nil, vws_cons, opsK_some, finB_ap, len_scr, len_lst, len_tup, abs_i, min_ii, max_ii, int_b, int_i, seqK_nx, seqK_rt, seqK_ex, seqK_bk, seqK_ct, seqK_if, sSeq_ap, sNil_ap, sPass_ap, sBreak_ap, sCont_ap, sRet_ap, sRetN_ap, sIf_ap, sExpr_ap, nxK_some, sAsg_ap, gNm_ap, own_false, own_val, own_cell, own_fr, sPar2_ap, sPar3_ap, par2K_ap, par3K_ap, gVals_nil, gVK_some, gVals_cons, gTu_tup, gTu_lst, gTu_fr, finF_nx, finF_ex, finF_rt, finR_val, finR_fr, finF_if, mCallF_ap, mMake_ap, mMeth_ap, clsOf_obj, mAttr_ap, finA_obj, ite_true', ite_false', ite_T, ite_F, sFor_ap, iVal_ap, finI_lst, finI_fr, finI_tup, decide_eq_true_eq, Bool.not_eq_true', decide_eq_false_iff_not, Nat.reduceAdd, mLm_ap, lmK_cell, isLst_lst, finLm0, finLm1, finLm2, lm3K_lst, lm4K_some, get_end, set_end, is_non, isnot_non, isNon_non, isNon_int, isNon_tup, isNon_obj, eq_bb, Bool.not_true, Bool.not_false, hk, hz]
  · obtain ⟨a, b, h1, h2⟩ := key 0
    refine ⟨a, b, ?_, h2⟩
    rw [← h1]
    simp only [mVar_ap, slotM_some, List.getElem?_cons_zero, List.getElem?_cons_succ, List.set_cons_zero, List.set_cons_succ, mK_ap, andThen_ok, andThen_if, exThen_ok, exThen_if, vw_val, vw_fr, vw_cell, cellV_lst, cellV_frz, rt_val, rt_fr, rt_cell, fin2_ap, fin2K_some, opK_some, fin1_ap, op1K_some, mOp2_ap, mOp1_ap, add_ii, sub_ii, neg_i, not_b, lt_ii, le_ii, gt_ii, ge_ii, eq_ii, ne_ii, ix_lst, Sz.ix_tup, ix_scr, omap_some, atI0, atI1, atI2, bl?_bl, tBl_ap, tBlK_some, tNotM_ap, tAndM_ap, tOrM_ap, tTrue_ap, mIf_ap, mAnd_ap, mOr_ap, andK_some, orK_some, mArgs_nil, mArgs_cons, mOwns_nil, mOwns_cons, mList_ap, mTup_ap, mCallB_ap, finL1, finL2, finL3, finL4, finL5, finT2, finT3, vwK_some, vws_nil, vws_cons, opsK_some, finB_ap, len_scr, len_lst, len_tup, abs_i, min_ii, max_ii, int_b, int_i, seqK_nx, seqK_rt, seqK_ex, seqK_bk, seqK_ct, seqK_if, sSeq_ap, sNil_ap, sPass_ap, sBreak_ap, sCont_ap, sRet_ap, sRetN_ap, sIf_ap, sExpr_ap, nxK_some, sAsg_ap, gNm_ap, own_false, own_val, own_cell, own_fr, sPar2_ap, sPar3_ap, par2K_ap, par3K_ap, gVals_nil, gVK_some, gVals_cons, gTu_tup, gTu_lst, gTu_fr, finF_nx, finF_ex, finF_rt, finR_val, finR_fr, finF_if, mCallF_ap, mMake_ap, mMeth_ap, clsOf_obj, mAttr_ap, finA_obj, ite_true', ite_false', ite_T, ite_F, sFor_ap, iVal_ap, finI_lst, finI_fr, finI_tup, decide_eq_true_eq, Bool.not_eq_true', decide_eq_false_iff_not, Nat.reduceAdd, mLm_ap, lmK_cell, isLst_lst, finLm0, finLm1, finLm2, lm3K_lst, lm4K_some, get_end, set_end, is_non, isnot_non, isNon_non, isNon_int, isNon_tup, isNon_obj, eq_bb, Bool.not_true, Bool.not_false, hk]
theorem bdl {n : Nat} {i : Int} (h : i.natAbs < 2 ^ n) : Bd n i := h
theorem bdr {n : Nat} {i m : Int} (h0 : 0 ≤ i) (h1 : i < m) (h : Bd n m) : Bd n i := by unfold Bd at *; omega
theorem pow10 {k : Nat} (n : Nat) (hk : decide (4 * k ≤ 2 ^ 27) = true) : dPow (.int 10) (.int (k : Int)) = some (.val (.int (10 ^ k))) := by
  have := pow_ii (i := 10) (j := (k : Int)) 4 (bdl (by decide)) (by omega) (by rw [Int.toNat_natCast]; exact of_decide_eq_true hk)
  rw [Int.toNat_natCast] at this
  exact this
theorem pow10_9 : dPow (.int 10) (.int 9) = some (.val (.int (10 ^ 9))) := pow_ii 4 (bdl (by decide)) (by decide) (by decide)
theorem pow10_30 : dPow (.int 10) (.int 30) = some (.val (.int (10 ^ 30))) := pow_ii 4 (bdl (by decide)) (by decide) (by decide)
theorem pow10_31 : dPow (.int 10) (.int 31) = some (.val (.int (10 ^ 31))) := pow_ii 4 (bdl (by decide)) (by decide) (by decide)
theorem pow10_32 : dPow (.int 10) (.int 32) = some (.val (.int (10 ^ 32))) := pow_ii 4 (bdl (by decide)) (by decide) (by decide)
theorem pow10_40 : dPow (.int 10) (.int 40) = some (.val (.int (10 ^ 40))) := pow_ii 4 (bdl (by decide)) (by decide) (by decide)
theorem finL8 {a b c d e f g h : D} {μ : Sto} : finL [.val a, .val b, .val c, .val d, .val e, .val f, .val g, .val h] μ = some (.ok (.fr [a, b, c, d, e, f, g, h]), μ) := finL_vals rfl (by simp)
theorem finT4 {a b c d : D} {μ : Sto} : finT [.val a, .val b, .val c, .val d] μ = some (.ok (.val (.tup [a, b, c, d])), μ) := finT_vals rfl (by simp)
/-- an end: a fraction of whole numbers with a bottom above nought -/
def Fr2 (m n : Nat) (x : Int × Int) : Prop := Bd m x.1 ∧ Bd n x.2 ∧ 0 < x.2
def dP (x : Int × Int) : D := .tup [.int x.1, .int x.2]
def dE : Option (Int × Int) → D
  | none => .non
  | some x => dP x
theorem end_call {μ : Sto} {k n : Nat} (h : HandAt μ k n) (hn : n < 2 ^ 199) :
    ∃ x μ', callF fi_l_end_of 1 [] [.cell k] [] μ = some (.ok (.val (dP x)), μ') ∧ Fr2 150 40 x ∧ HandAt μ' k (n + 3) ∧ Upd k μ μ' := by
  rw [show callF fi_l_end_of 1 [] [.cell k] [] μ = fi_l_end_of.sem [.cell k] μ from callF_eq rfl rfl rfl]
  rw [show fi_l_end_of.sem [.cell k] μ = finF μ.length (c_l_end_of [some (.cell k), none] μ) from rfl]
  unfold c_l_end_of
  obtain ⟨i, μ1, e1, a1, b1, h1, u1⟩ := take_call (m := 8) h (by decide) (bdl (by decide))
  obtain ⟨w, hw, hm⟩ := atI_mem (l := [D.int 1, D.int 1, D.int 2, D.int 3, D.int 6, D.int 7, D.int 12, D.int (10 ^ 9 + 7)]) (i := i) a1 b1
  obtain ⟨q, rfl, hq0, hq1⟩ : ∃ m : Int, w = .int m ∧ 0 < m ∧ m ≤ 10 ^ 9 + 7 := by
    simp only [List.mem_cons, List.not_mem_nil, or_false] at hm
    rcases hm with rfl | rfl | rfl | rfl | rfl | rfl | rfl | rfl <;> exact ⟨_, rfl, by decide, by decide⟩
  have bq : Bd 40 q := by
    have : (10 : Int) ^ 9 + 7 < 2 ^ 40 := by decide
    unfold Bd
    omega
  generalize hmn : (if (12 : Int) < q then 12 else q) = m
  have hm1 : 0 < m ∧ m ≤ 12 := by rw [← hmn]; split <;> omega
  have m1 : dMul (.int 9) (.int m) = some (.val (.int (9 * m))) := mul_ii (mulOk_left (bdl (by decide)))
  have bm : Bd 8000 (9 * m) := Bd.mono (n := 7) (by unfold Bd; omega) (by decide)
  obtain ⟨j, μ2, e2, a2, b2, h2, u2⟩ := take_call (m := 9 * m) h1 (by omega) bm
  obtain ⟨l, μ3, e3, a3, b3, h3, u3⟩ := take_call (m := 4) h2 (by decide) (bdl (by decide))
  obtain ⟨w2, hw2, hm2⟩ := atI_mem (l := [D.int 0, D.int 0, D.int 0, D.int (10 ^ 30)]) (i := l) a3 b3
  obtain ⟨z, rfl, bz⟩ : ∃ m : Int, w2 = .int m ∧ Bd 100 m := by
    simp only [List.mem_cons, List.not_mem_nil, or_false] at hm2
    rcases hm2 with rfl | rfl | rfl | rfl <;> exact ⟨_, rfl, bdl (by decide)⟩
  have m2 := mul_bd 40 100 bq bz
  simp only [mVar_ap, slotM_some, List.getElem?_cons_zero, List.getElem?_cons_succ, List.set_cons_zero, List.set_cons_succ, mK_ap, andThen_ok, andThen_if, exThen_ok, exThen_if, vw_val, vw_fr, vw_cell, cellV_lst, cellV_frz, rt_val, rt_fr, rt_cell, fin2_ap, fin2K_some, opK_some, fin1_ap, op1K_some, mOp2_ap, mOp1_ap, add_ii, sub_ii, neg_i, not_b, lt_ii, le_ii, gt_ii, ge_ii, eq_ii, ne_ii, ix_lst, Sz.ix_tup, ix_scr, omap_some, atI0, atI1, atI2, bl?_bl, tBl_ap, tBlK_some, tNotM_ap, tAndM_ap, tOrM_ap, tTrue_ap, mIf_ap, mAnd_ap, mOr_ap, andK_some, orK_some, mArgs_nil, mArgs_cons, mOwns_nil, mOwns_cons, mList_ap, mTup_ap, mCallB_ap, finL1, finL2, finL3, finL4, finL5, finT2, finT3, vwK_some, vws_nil, vws_cons, opsK_some, finB_ap, len_scr, len_lst, len_tup, abs_i, min_ii, max_ii, int_b, int_i, seqK_nx, seqK_rt, seqK_ex, seqK_bk, seqK_ct, seqK_if, sSeq_ap, sNil_ap, sPass_ap, sBreak_ap, sCont_ap, sRet_ap, sRetN_ap, sIf_ap, sExpr_ap, nxK_some, sAsg_ap, gNm_ap, own_false, own_val, own_cell, own_fr, sPar2_ap, sPar3_ap, par2K_ap, par3K_ap, gVals_nil, gVK_some, gVals_cons, gTu_tup, gTu_lst, gTu_fr, finF_nx, finF_ex, finF_rt, finR_val, finR_fr, finF_if, mCallF_ap, mMake_ap, mMeth_ap, clsOf_obj, mAttr_ap, finA_obj, ite_true', ite_false', ite_T, ite_F, sFor_ap, iVal_ap, finI_lst, finI_fr, finI_tup, decide_eq_true_eq, Bool.not_eq_true', decide_eq_false_iff_not, Nat.reduceAdd, mLm_ap, lmK_cell, isLst_lst, finLm0, finLm1, finLm2, lm3K_lst, lm4K_some, get_end, set_end, is_non, isnot_non, isNon_non, isNon_int, isNon_tup, isNon_obj, eq_bb, Bool.not_true, Bool.not_false, pow10_9, finL8, e1, hw, hmn, m1, e2, pow10_30, e3, hw2, m2]
  refine ⟨(j - 3 + q * z, q), _, rfl, ⟨?_, bq, hq0⟩, ?_, ?_⟩
  · have : Bd 140 (j - 3) := Bd.mono (n := 10) (by unfold Bd; omega) (by decide)
    exact (this.add (bq.mul bz)).mono (by decide)
  · rw [((u1.trans u2).trans u3).take]; exact h3
  · rw [((u1.trans u2).trans u3).take]; exact (u1.trans u2).trans u3
theorem below_call {x y : Int × Int} {m n : Nat} {μ : Sto} (hx : Fr2 m n x) (hy : Fr2 m n y) (e : m + n ≤ 134217728) : callF fi_l_below 2 [] [.val (dP x), .val (dP y)] [] μ = some (.ok (.val (.bl (decide (x.1 * y.2 < y.1 * x.2)))), μ) := by
  rw [show callF fi_l_below 2 [] [.val (dP x), .val (dP y)] [] μ = fi_l_below.sem [.val (dP x), .val (dP y)] μ from callF_eq rfl rfl rfl]
  rw [show fi_l_below.sem [.val (dP x), .val (dP y)] μ = finF μ.length (c_l_below [some (.val (.tup [.int x.1, .int x.2])), some (.val (.tup [.int y.1, .int y.2]))] μ) from rfl]
  unfold c_l_below
  have m1 := mul_bd m n hx.1 hy.2.1 e
  have m2 := mul_bd m n hy.1 hx.2.1 e
  simp only [mVar_ap, slotM_some, List.getElem?_cons_zero, List.getElem?_cons_succ, List.set_cons_zero, List.set_cons_succ, mK_ap, andThen_ok, andThen_if, exThen_ok, exThen_if, vw_val, vw_fr, vw_cell, cellV_lst, cellV_frz, rt_val, rt_fr, rt_cell, fin2_ap, fin2K_some, opK_some, fin1_ap, op1K_some, mOp2_ap, mOp1_ap, add_ii, sub_ii, neg_i, not_b, lt_ii, le_ii, gt_ii, ge_ii, eq_ii, ne_ii, ix_lst, Sz.ix_tup, ix_scr, omap_some, atI0, atI1, atI2, bl?_bl, tBl_ap, tBlK_some, tNotM_ap, tAndM_ap, tOrM_ap, tTrue_ap, mIf_ap, mAnd_ap, mOr_ap, andK_some, orK_some, mArgs_nil, mArgs_cons, mOwns_nil, mOwns_cons, mList_ap, mTup_ap, mCallB_ap, finL1, finL2, finL3, finL4, finL5, finT2, finT3, vwK_some, vws_nil, vws_cons, opsK_some, finB_ap, len_scr, len_lst, len_tup, abs_i, min_ii, max_ii, int_b, int_i, seqK_nx, seqK_rt, seqK_ex, seqK_bk, seqK_ct, seqK_if, sSeq_ap, sNil_ap, sPass_ap, sBreak_ap, sCont_ap, sRet_ap, sRetN_ap, sIf_ap, sExpr_ap, nxK_some, sAsg_ap, gNm_ap, own_false, own_val, own_cell, own_fr, sPar2_ap, sPar3_ap, par2K_ap, par3K_ap, gVals_nil, gVK_some, gVals_cons, gTu_tup, gTu_lst, gTu_fr, finF_nx, finF_ex, finF_rt, finR_val, finR_fr, finF_if, mCallF_ap, mMake_ap, mMeth_ap, clsOf_obj, mAttr_ap, finA_obj, ite_true', ite_false', ite_T, ite_F, sFor_ap, iVal_ap, finI_lst, finI_fr, finI_tup, decide_eq_true_eq, Bool.not_eq_true', decide_eq_false_iff_not, Nat.reduceAdd, mLm_ap, lmK_cell, isLst_lst, finLm0, finLm1, finLm2, lm3K_lst, lm4K_some, get_end, set_end, is_non, isnot_non, isNon_non, isNon_int, isNon_tup, isNon_obj, eq_bb, Bool.not_true, Bool.not_false, m1, m2]
  rw [List.take_length]
theorem same_call {x y : Int × Int} {m n : Nat} {μ : Sto} (hx : Fr2 m n x) (hy : Fr2 m n y) (e : m + n ≤ 134217728) : callF fi_l_same 2 [] [.val (dP x), .val (dP y)] [] μ = some (.ok (.val (.bl (decide (x.1 * y.2 = y.1 * x.2)))), μ) := by
  rw [show callF fi_l_same 2 [] [.val (dP x), .val (dP y)] [] μ = fi_l_same.sem [.val (dP x), .val (dP y)] μ from callF_eq rfl rfl rfl]
  rw [show fi_l_same.sem [.val (dP x), .val (dP y)] μ = finF μ.length (c_l_same [some (.val (.tup [.int x.1, .int x.2])), some (.val (.tup [.int y.1, .int y.2]))] μ) from rfl]
  unfold c_l_same
  have m1 := mul_bd m n hx.1 hy.2.1 e
  have m2 := mul_bd m n hy.1 hx.2.1 e
  simp only [mVar_ap, slotM_some, List.getElem?_cons_zero, List.getElem?_cons_succ, List.set_cons_zero, List.set_cons_succ, mK_ap, andThen_ok, andThen_if, exThen_ok, exThen_if, vw_val, vw_fr, vw_cell, cellV_lst, cellV_frz, rt_val, rt_fr, rt_cell, fin2_ap, fin2K_some, opK_some, fin1_ap, op1K_some, mOp2_ap, mOp1_ap, add_ii, sub_ii, neg_i, not_b, lt_ii, le_ii, gt_ii, ge_ii, eq_ii, ne_ii, ix_lst, Sz.ix_tup, ix_scr, omap_some, atI0, atI1, atI2, bl?_bl, tBl_ap, tBlK_some, tNotM_ap, tAndM_ap, tOrM_ap, tTrue_ap, mIf_ap, mAnd_ap, mOr_ap, andK_some, orK_some, mArgs_nil, mArgs_cons, mOwns_nil, mOwns_cons, mList_ap, mTup_ap, mCallB_ap, finL1, finL2, finL3, finL4, finL5, finT2, finT3, vwK_some, vws_nil, vws_cons, opsK_some, finB_ap, len_scr, len_lst, len_tup, abs_i, min_ii, max_ii, int_b, int_i, seqK_nx, seqK_rt, seqK_ex, seqK_bk, seqK_ct, seqK_if, sSeq_ap, sNil_ap, sPass_ap, sBreak_ap, sCont_ap, sRet_ap, sRetN_ap, sIf_ap, sExpr_ap, nxK_some, sAsg_ap, gNm_ap, own_false, own_val, own_cell, own_fr, sPar2_ap, sPar3_ap, par2K_ap, par3K_ap, gVals_nil, gVK_some, gVals_cons, gTu_tup, gTu_lst, gTu_fr, finF_nx, finF_ex, finF_rt, finR_val, finR_fr, finF_if, mCallF_ap, mMake_ap, mMeth_ap, clsOf_obj, mAttr_ap, finA_obj, ite_true', ite_false', ite_T, ite_F, sFor_ap, iVal_ap, finI_lst, finI_fr, finI_tup, decide_eq_true_eq, Bool.not_eq_true', decide_eq_false_iff_not, Nat.reduceAdd, mLm_ap, lmK_cell, isLst_lst, finLm0, finLm1, finLm2, lm3K_lst, lm4K_some, get_end, set_end, is_non, isnot_non, isNon_non, isNon_int, isNon_tup, isNon_obj, eq_bb, Bool.not_true, Bool.not_false, m1, m2]
  rw [List.take_length]
def FrE (m n : Nat) : Option (Int × Int) → Prop
  | none => True
  | some x => Fr2 m n x
def someB : Option (Int × Int) → Option (Int × Int) → Bool → Bool → Bool
  | some x, some y, ia, ib => decide (x.1 * y.2 < y.1 * x.2) || (decide (x.1 * y.2 = y.1 * x.2) && (ia && ib))
  | _, _, _, _ => true
theorem isNon_dP {x : Int × Int} : isNon (dP x) = false := rfl
theorem ite_bl {b c : Bool} {μ : Sto} : (if b = true then some (Except.ok (S.val (.bl true)), μ) else some (Except.ok (S.val (.bl c)), μ)) = (some (Except.ok (S.val (.bl (b || c))), μ) : Option R) := by cases b <;> rfl
theorem ite_bl' {b c : Bool} {μ : Sto} : (if b = true then some (Except.ok (S.val (.bl c)), μ) else some (Except.ok (S.val (.bl false)), μ)) = (some (Except.ok (S.val (.bl (b && c))), μ) : Option R) := by cases b <;> rfl
theorem some_call {a b : Option (Int × Int)} {ia ib : Bool} {m n : Nat} {μ : Sto} (ha : FrE m n a) (hb : FrE m n b) (e : m + n ≤ 134217728) : callF fi_l_some 4 [] [.val (dE a), .val (dE b), .val (.bl ia), .val (.bl ib)] [] μ = some (.ok (.val (.bl (someB a b ia ib))), μ) := by
  rw [show callF fi_l_some 4 [] [.val (dE a), .val (dE b), .val (.bl ia), .val (.bl ib)] [] μ = fi_l_some.sem [.val (dE a), .val (dE b), .val (.bl ia), .val (.bl ib)] μ from callF_eq rfl rfl rfl]
  rw [show fi_l_some.sem [.val (dE a), .val (dE b), .val (.bl ia), .val (.bl ib)] μ = finF μ.length (c_l_some [some (.val (dE a)), some (.val (dE b)), some (.val (.bl ia)), some (.val (.bl ib))] μ) from rfl]
  unfold c_l_some
  cases a with
  | none =>
    simp only [mVar_ap, slotM_some, List.getElem?_cons_zero, List.getElem?_cons_succ, List.set_cons_zero, List.set_cons_succ, mK_ap, andThen_ok, andThen_if, exThen_ok, exThen_if, vw_val, vw_fr, vw_cell, cellV_lst, cellV_frz, rt_val, rt_fr, rt_cell, fin2_ap, fin2K_some, opK_some, fin1_ap, op1K_some, mOp2_ap, mOp1_ap, add_ii, sub_ii, neg_i, not_b, lt_ii, le_ii, gt_ii, ge_ii, eq_ii, ne_ii, ix_lst, Sz.ix_tup, ix_scr, omap_some, atI0, atI1, atI2, bl?_bl, tBl_ap, tBlK_some, tNotM_ap, tAndM_ap, tOrM_ap, tTrue_ap, mIf_ap, mAnd_ap, mOr_ap, andK_some, orK_some, mArgs_nil, mArgs_cons, mOwns_nil, mOwns_cons, mList_ap, mTup_ap, mCallB_ap, finL1, finL2, finL3, finL4, finL5, finT2, finT3, vwK_some, vws_nil, vws_cons, opsK_some, finB_ap, len_scr, len_lst, len_tup, abs_i, min_ii, max_ii, int_b, int_i, seqK_nx, seqK_rt, seqK_ex, seqK_bk, seqK_ct, seqK_if, sSeq_ap, sNil_ap, sPass_ap, sBreak_ap, sCont_ap, sRet_ap, sRetN_ap, sIf_ap, sExpr_ap, nxK_some, sAsg_ap, gNm_ap, own_false, own_val, own_cell, own_fr, sPar2_ap, sPar3_ap, par2K_ap, par3K_ap, gVals_nil, gVK_some, gVals_cons, gTu_tup, gTu_lst, gTu_fr, finF_nx, finF_ex, finF_rt, finR_val, finR_fr, finF_if, mCallF_ap, mMake_ap, mMeth_ap, clsOf_obj, mAttr_ap, finA_obj, ite_true', ite_false', ite_T, ite_F, sFor_ap, iVal_ap, finI_lst, finI_fr, finI_tup, decide_eq_true_eq, Bool.not_eq_true', decide_eq_false_iff_not, Nat.reduceAdd, mLm_ap, lmK_cell, isLst_lst, finLm0, finLm1, finLm2, lm3K_lst, lm4K_some, get_end, set_end, is_non, isnot_non, isNon_non, isNon_int, isNon_tup, isNon_obj, eq_bb, Bool.not_true, Bool.not_false, dE]
    rw [List.take_length]
    rfl
  | some x =>
    cases b with
    | none =>
      simp only [mVar_ap, slotM_some, List.getElem?_cons_zero, List.getElem?_cons_succ, List.set_cons_zero, List.set_cons_succ, mK_ap, andThen_ok, andThen_if, exThen_ok, exThen_if, vw_val, vw_fr, vw_cell, cellV_lst, cellV_frz, rt_val, rt_fr, rt_cell, fin2_ap, fin2K_some, opK_some, fin1_ap, op1K_some, mOp2_ap, mOp1_ap, add_ii, sub_ii, neg_i, not_b, lt_ii, le_ii, gt_ii, ge_ii, eq_ii, ne_ii, ix_lst, Sz.ix_tup, ix_scr, omap_some, atI0, atI1, atI2, bl?_bl, tBl_ap, tBlK_some, tNotM_ap, tAndM_ap, tOrM_ap, tTrue_ap, mIf_ap, mAnd_ap, mOr_ap, andK_some, orK_some, mArgs_nil, mArgs_cons, mOwns_nil, mOwns_cons, mList_ap, mTup_ap, mCallB_ap, finL1, finL2, finL3, finL4, finL5, finT2, finT3, vwK_some, vws_nil, vws_cons, opsK_some, finB_ap, len_scr, len_lst, len_tup, abs_i, min_ii, max_ii, int_b, int_i, seqK_nx, seqK_rt, seqK_ex, seqK_bk, seqK_ct, seqK_if, sSeq_ap, sNil_ap, sPass_ap, sBreak_ap, sCont_ap, sRet_ap, sRetN_ap, sIf_ap, sExpr_ap, nxK_some, sAsg_ap, gNm_ap, own_false, own_val, own_cell, own_fr, sPar2_ap, sPar3_ap, par2K_ap, par3K_ap, gVals_nil, gVK_some, gVals_cons, gTu_tup, gTu_lst, gTu_fr, finF_nx, finF_ex, finF_rt, finR_val, finR_fr, finF_if, mCallF_ap, mMake_ap, mMeth_ap, clsOf_obj, mAttr_ap, finA_obj, ite_true', ite_false', ite_T, ite_F, sFor_ap, iVal_ap, finI_lst, finI_fr, finI_tup, decide_eq_true_eq, Bool.not_eq_true', decide_eq_false_iff_not, Nat.reduceAdd, mLm_ap, lmK_cell, isLst_lst, finLm0, finLm1, finLm2, lm3K_lst, lm4K_some, get_end, set_end, is_non, isnot_non, isNon_non, isNon_int, isNon_tup, isNon_obj, eq_bb, Bool.not_true, Bool.not_false, dE, isNon_dP]
      rw [List.take_length]
      rfl
    | some y =>
      have k1 := fun ν : Sto => below_call (μ := ν) ha hb e
      have k2 := fun ν : Sto => same_call (μ := ν) ha hb e
      generalize hlt : decide (x.1 * y.2 < y.1 * x.2) = lt at k1
      generalize hsm : decide (x.1 * y.2 = y.1 * x.2) = sm at k2
      have hB : someB (some x) (some y) ia ib = (lt || (sm && (ia && ib))) := by
        show (decide (x.1 * y.2 < y.1 * x.2) || (decide (x.1 * y.2 = y.1 * x.2) && (ia && ib))) = _
        rw [hlt, hsm]
      rw [hB]
      cases lt <;> cases sm <;> cases ia <;> (simp only [mVar_ap, slotM_some, List.getElem?_cons_zero, List.getElem?_cons_succ, List.set_cons_zero, List.set_cons_succ, mK_ap, andThen_ok, andThen_if, exThen_ok, exThen_if, vw_val, vw_fr, vw_cell, cellV_lst, cellV_frz, rt_val, rt_fr, rt_cell, fin2_ap, fin2K_some, opK_some, fin1_ap, op1K_some, mOp2_ap, mOp1_ap, add_ii, sub_ii, neg_i, not_b, lt_ii, le_ii, gt_ii, ge_ii, eq_ii, ne_ii, ix_lst, Sz.ix_tup, ix_scr, omap_some, atI0, atI1, atI2, bl?_bl, tBl_ap, tBlK_some, tNotM_ap, tAndM_ap, tOrM_ap, tTrue_ap, mIf_ap, mAnd_ap, mOr_ap, andK_some, orK_some, mArgs_nil, mArgs_cons, mOwns_nil, mOwns_cons, mList_ap, mTup_ap, mCallB_ap, finL1, finL2, finL3, finL4, finL5, finT2, finT3, vwK_some, vws_nil, vws_cons, opsK_some, finB_ap, len_scr, len_lst, len_tup, abs_i, min_ii, max_ii, int_b, int_i, seqK_nx, seqK_rt, seqK_ex, seqK_bk, seqK_ct, seqK_if, sSeq_ap, sNil_ap, sPass_ap, sBreak_ap, sCont_ap, sRet_ap, sRetN_ap, sIf_ap, sExpr_ap, nxK_some, sAsg_ap, gNm_ap, own_false, own_val, own_cell, own_fr, sPar2_ap, sPar3_ap, par2K_ap, par3K_ap, gVals_nil, gVK_some, gVals_cons, gTu_tup, gTu_lst, gTu_fr, finF_nx, finF_ex, finF_rt, finR_val, finR_fr, finF_if, mCallF_ap, mMake_ap, mMeth_ap, clsOf_obj, mAttr_ap, finA_obj, ite_true', ite_false', ite_T, ite_F, sFor_ap, iVal_ap, finI_lst, finI_fr, finI_tup, decide_eq_true_eq, Bool.not_eq_true', decide_eq_false_iff_not, Nat.reduceAdd, mLm_ap, lmK_cell, isLst_lst, finLm0, finLm1, finLm2, lm3K_lst, lm4K_some, get_end, set_end, is_non, isnot_non, isNon_non, isNon_int, isNon_tup, isNon_obj, eq_bb, Bool.not_true, Bool.not_false, dE, isNon_dP, k1, k2, Bool.false_or, Bool.true_or, Bool.and_false, Bool.false_and, Bool.true_and]; rw [List.take_length])
theorem ends_call {μ : Sto} {k n : Nat} (h : HandAt μ k n) (hn : n < 2 ^ 198) : ∃ a b ia ib μ', callF fi_l_ends_of 1 [] [.cell k] [] μ = some (.ok (.val (.tup [dE a, dE b, .bl ia, .bl ib])), μ') ∧ FrE 150 40 a ∧ FrE 150 40 b ∧ someB a b ia ib = true ∧ HandAt μ' k (n + 9) ∧ Upd k μ μ' := by
  rw [show callF fi_l_ends_of 1 [] [.cell k] [] μ = fi_l_ends_of.sem [.cell k] μ from callF_eq rfl rfl rfl]
  rw [show fi_l_ends_of.sem [.cell k] μ = finF μ.length (c_l_ends_of [some (.cell k), none, none, none, none, none] μ) from rfl]
  unfold c_l_ends_of
  obtain ⟨fo, μ1, e1, a1, b1, h1, u1⟩ := take_call (m := 8) h (by decide) (bdl (by decide))
  obtain ⟨a, μ2, e2, fa, h2, u2⟩ := end_call h1 (by omega)
  obtain ⟨b, μ3, e3, fb, h3, u3⟩ := end_call h2 (by omega)
  obtain ⟨i, μ4, e4, a4, b4, h4, u4⟩ := take_call (m := 2) h3 (by decide) (bdl (by decide))
  obtain ⟨j, μ5, e5, a5, b5, h5, u5⟩ := take_call (m := 2) h4 (by decide) (bdl (by decide))
  have U := (((u1.trans u2).trans u3).trans u4).trans u5
  have fin : ∀ (a b : Option (Int × Int)) (ia ib : Bool), FrE 150 40 a → FrE 150 40 b → ∃ a' b' ia' ib' μ', finF μ.length (seqK (some (.nx, [some (.cell k), some (.val (.int fo)), some (.val (dE a)), some (.val (dE b)), some (.val (.bl ia)), some (.val (.bl ib))], μ5)) (sSeq (sIf (tNotM (tBl (mCallF fi_l_some 4 [] [mVar 2, mVar 3, mVar 4, mVar 5] []))) (sSeq (sAsg (gTu [gNm 2 false, gNm 3 false, gNm 4 false, gNm 5 false]) (mTup [mVar 3, mVar 2, mK (.bl true), mK (.bl true)])) sNil) sNil) (sSeq (sRet (mTup [mVar 2, mVar 3, mVar 4, mVar 5])) sNil))) = some (.ok (.val (.tup [dE a', dE b', .bl ia', .bl ib'])), μ') ∧ FrE 150 40 a' ∧ FrE 150 40 b' ∧ someB a' b' ia' ib' = true ∧ HandAt μ' k (n + 9) ∧ Upd k μ μ' := by
    intro a b ia ib fa fb
    have k1 := some_call (ia := ia) (ib := ib) (μ := μ5) fa fb (by decide)
    cases hB : someB a b ia ib with
    | true =>
      rw [hB] at k1
      simp only [mVar_ap, slotM_some, List.getElem?_cons_zero, List.getElem?_cons_succ, List.set_cons_zero, List.set_cons_succ, mK_ap, andThen_ok, andThen_if, exThen_ok, exThen_if, vw_val, vw_fr, vw_cell, cellV_lst, cellV_frz, rt_val, rt_fr, rt_cell, fin2_ap, fin2K_some, opK_some, fin1_ap, op1K_some, mOp2_ap, mOp1_ap, add_ii, sub_ii, neg_i, not_b, lt_ii, le_ii, gt_ii, ge_ii, eq_ii, ne_ii, ix_lst, Sz.ix_tup, ix_scr, omap_some, atI0, atI1, atI2, bl?_bl, tBl_ap, tBlK_some, tNotM_ap, tAndM_ap, tOrM_ap, tTrue_ap, mIf_ap, mAnd_ap, mOr_ap, andK_some, orK_some, mArgs_nil, mArgs_cons, mOwns_nil, mOwns_cons, mList_ap, mTup_ap, mCallB_ap, finL1, finL2, finL3, finL4, finL5, finT2, finT3, vwK_some, vws_nil, vws_cons, opsK_some, finB_ap, len_scr, len_lst, len_tup, abs_i, min_ii, max_ii, int_b, int_i, seqK_nx, seqK_rt, seqK_ex, seqK_bk, seqK_ct, seqK_if, sSeq_ap, sNil_ap, sPass_ap, sBreak_ap, sCont_ap, sRet_ap, sRetN_ap, sIf_ap, sExpr_ap, nxK_some, sAsg_ap, gNm_ap, own_false, own_val, own_cell, own_fr, sPar2_ap, sPar3_ap, par2K_ap, par3K_ap, gVals_nil, gVK_some, gVals_cons, gTu_tup, gTu_lst, gTu_fr, finF_nx, finF_ex, finF_rt, finR_val, finR_fr, finF_if, mCallF_ap, mMake_ap, mMeth_ap, clsOf_obj, mAttr_ap, finA_obj, ite_true', ite_false', ite_T, ite_F, sFor_ap, iVal_ap, finI_lst, finI_fr, finI_tup, decide_eq_true_eq, Bool.not_eq_true', decide_eq_false_iff_not, Nat.reduceAdd, mLm_ap, lmK_cell, isLst_lst, finLm0, finLm1, finLm2, lm3K_lst, lm4K_some, get_end, set_end, is_non, isnot_non, isNon_non, isNon_int, isNon_tup, isNon_obj, eq_bb, Bool.not_true, Bool.not_false, k1, finT4]
      refine ⟨a, b, ia, ib, _, rfl, fa, fb, hB, ?_, ?_⟩
      · rw [U.take]; exact h5
      · rw [U.take]; exact U
    | false =>
      rw [hB] at k1
      simp only [mVar_ap, slotM_some, List.getElem?_cons_zero, List.getElem?_cons_succ, List.set_cons_zero, List.set_cons_succ, mK_ap, andThen_ok, andThen_if, exThen_ok, exThen_if, vw_val, vw_fr, vw_cell, cellV_lst, cellV_frz, rt_val, rt_fr, rt_cell, fin2_ap, fin2K_some, opK_some, fin1_ap, op1K_some, mOp2_ap, mOp1_ap, add_ii, sub_ii, neg_i, not_b, lt_ii, le_ii, gt_ii, ge_ii, eq_ii, ne_ii, ix_lst, Sz.ix_tup, ix_scr, omap_some, atI0, atI1, atI2, bl?_bl, tBl_ap, tBlK_some, tNotM_ap, tAndM_ap, tOrM_ap, tTrue_ap, mIf_ap, mAnd_ap, mOr_ap, andK_some, orK_some, mArgs_nil, mArgs_cons, mOwns_nil, mOwns_cons, mList_ap, mTup_ap, mCallB_ap, finL1, finL2, finL3, finL4, finL5, finT2, finT3, vwK_some, vws_nil, vws_cons, opsK_some, finB_ap, len_scr, len_lst, len_tup, abs_i, min_ii, max_ii, int_b, int_i, seqK_nx, seqK_rt, seqK_ex, seqK_bk, seqK_ct, seqK_if, sSeq_ap, sNil_ap, sPass_ap, sBreak_ap, sCont_ap, sRet_ap, sRetN_ap, sIf_ap, sExpr_ap, nxK_some, sAsg_ap, gNm_ap, own_false, own_val, own_cell, own_fr, sPar2_ap, sPar3_ap, par2K_ap, par3K_ap, gVals_nil, gVK_some, gVals_cons, gTu_tup, gTu_lst, gTu_fr, finF_nx, finF_ex, finF_rt, finR_val, finR_fr, finF_if, mCallF_ap, mMake_ap, mMeth_ap, clsOf_obj, mAttr_ap, finA_obj, ite_true', ite_false', ite_T, ite_F, sFor_ap, iVal_ap, finI_lst, finI_fr, finI_tup, decide_eq_true_eq, Bool.not_eq_true', decide_eq_false_iff_not, Nat.reduceAdd, mLm_ap, lmK_cell, isLst_lst, finLm0, finLm1, finLm2, lm3K_lst, lm4K_some, get_end, set_end, is_non, isnot_non, isNon_non, isNon_int, isNon_tup, isNon_obj, eq_bb, Bool.not_true, Bool.not_false, k1, finT4]
      refine ⟨b, a, true, true, _, rfl, fb, fa, ?_, ?_, ?_⟩
      · cases a with
        | none => cases hB
        | some x =>
          cases b with
          | none => cases hB
          | some y =>
            replace hB : (decide (x.1 * y.2 < y.1 * x.2) || (decide (x.1 * y.2 = y.1 * x.2) && (ia && ib))) = false := hB
            show (decide (y.1 * x.2 < x.1 * y.2) || (decide (y.1 * x.2 = x.1 * y.2) && (true && true))) = true
            rw [Bool.or_eq_false_iff] at hB
            have h1 := of_decide_eq_false hB.1
            by_cases h2 : y.1 * x.2 < x.1 * y.2
            · rw [decide_eq_true h2]; rfl
            · rw [decide_eq_false h2, decide_eq_true (by omega)]; rfl
      · rw [U.take]; exact h5
      · rw [U.take]; exact U
  have st : ∀ (a b : Option (Int × Int)), (FrE 150 40 a ∧ FrE 150 40 b) → ∃ a' b' ia' ib' μ', finF μ.length (seqK (some (.nx, [some (.cell k), some (.val (.int fo)), some (.val (dE a)), some (.val (dE b)), some (.val (.bl (decide (i = 0)))), some (.val (.bl (decide (j = 0))))], μ5)) (sSeq (sIf (tNotM (tBl (mCallF fi_l_some 4 [] [mVar 2, mVar 3, mVar 4, mVar 5] []))) (sSeq (sAsg (gTu [gNm 2 false, gNm 3 false, gNm 4 false, gNm 5 false]) (mTup [mVar 3, mVar 2, mK (.bl true), mK (.bl true)])) sNil) sNil) (sSeq (sRet (mTup [mVar 2, mVar 3, mVar 4, mVar 5])) sNil))) = some (.ok (.val (.tup [dE a', dE b', .bl ia', .bl ib'])), μ') ∧ FrE 150 40 a' ∧ FrE 150 40 b' ∧ someB a' b' ia' ib' = true ∧ HandAt μ' k (n + 9) ∧ Upd k μ μ' := fun a b f => fin a b _ _ f.1 f.2
  by_cases c0 : fo = 0
  · skip
    have d0 : decide (fo = 0) = true := decide_eq_true (by omega)
    have d1 : decide (fo = 1) = false := decide_eq_false (by omega)
    have d2 : decide (fo = 2) = false := decide_eq_false (by omega)
    have d3 : decide (fo = 3) = false := decide_eq_false (by omega)
    obtain ⟨a', b', ia', ib', μ', e, r⟩ := st (none) (some b) ⟨trivial, fb⟩
    refine ⟨a', b', ia', ib', μ', ?_, r⟩
    rw [← e]
    simp only [mVar_ap, slotM_some, List.getElem?_cons_zero, List.getElem?_cons_succ, List.set_cons_zero, List.set_cons_succ, mK_ap, andThen_ok, andThen_if, exThen_ok, exThen_if, vw_val, vw_fr, vw_cell, cellV_lst, cellV_frz, rt_val, rt_fr, rt_cell, fin2_ap, fin2K_some, opK_some, fin1_ap, op1K_some, mOp2_ap, mOp1_ap, add_ii, sub_ii, neg_i, not_b, lt_ii, le_ii, gt_ii, ge_ii, eq_ii, ne_ii, ix_lst, Sz.ix_tup, ix_scr, omap_some, atI0, atI1, atI2, bl?_bl, tBl_ap, tBlK_some, tNotM_ap, tAndM_ap, tOrM_ap, tTrue_ap, mIf_ap, mAnd_ap, mOr_ap, andK_some, orK_some, mArgs_nil, mArgs_cons, mOwns_nil, mOwns_cons, mList_ap, mTup_ap, mCallB_ap, finL1, finL2, finL3, finL4, finL5, finT2, finT3, vwK_some, vws_nil, vws_cons, opsK_some, finB_ap, len_scr, len_lst, len_tup, abs_i, min_ii, max_ii, int_b, int_i, seqK_nx, seqK_rt, seqK_ex, seqK_bk, seqK_ct, seqK_if, sSeq_ap, sNil_ap, sPass_ap, sBreak_ap, sCont_ap, sRet_ap, sRetN_ap, sIf_ap, sExpr_ap, nxK_some, sAsg_ap, gNm_ap, own_false, own_val, own_cell, own_fr, sPar2_ap, sPar3_ap, par2K_ap, par3K_ap, gVals_nil, gVK_some, gVals_cons, gTu_tup, gTu_lst, gTu_fr, finF_nx, finF_ex, finF_rt, finR_val, finR_fr, finF_if, mCallF_ap, mMake_ap, mMeth_ap, clsOf_obj, mAttr_ap, finA_obj, ite_true', ite_false', ite_T, ite_F, sFor_ap, iVal_ap, finI_lst, finI_fr, finI_tup, decide_eq_true_eq, Bool.not_eq_true', decide_eq_false_iff_not, Nat.reduceAdd, mLm_ap, lmK_cell, isLst_lst, finLm0, finLm1, finLm2, lm3K_lst, lm4K_some, get_end, set_end, is_non, isnot_non, isNon_non, isNon_int, isNon_tup, isNon_obj, eq_bb, Bool.not_true, Bool.not_false, e1, e2, e3, e4, e5, finT2, finT4, dE, d0, d1, d2, d3]
  by_cases c1 : fo = 1
  · skip
    have d0 : decide (fo = 0) = false := decide_eq_false (by omega)
    have d1 : decide (fo = 1) = true := decide_eq_true (by omega)
    have d2 : decide (fo = 2) = false := decide_eq_false (by omega)
    have d3 : decide (fo = 3) = false := decide_eq_false (by omega)
    obtain ⟨a', b', ia', ib', μ', e, r⟩ := st (some a) (none) ⟨fa, trivial⟩
    refine ⟨a', b', ia', ib', μ', ?_, r⟩
    rw [← e]
    simp only [mVar_ap, slotM_some, List.getElem?_cons_zero, List.getElem?_cons_succ, List.set_cons_zero, List.set_cons_succ, mK_ap, andThen_ok, andThen_if, exThen_ok, exThen_if, vw_val, vw_fr, vw_cell, cellV_lst, cellV_frz, rt_val, rt_fr, rt_cell, fin2_ap, fin2K_some, opK_some, fin1_ap, op1K_some, mOp2_ap, mOp1_ap, add_ii, sub_ii, neg_i, not_b, lt_ii, le_ii, gt_ii, ge_ii, eq_ii, ne_ii, ix_lst, Sz.ix_tup, ix_scr, omap_some, atI0, atI1, atI2, bl?_bl, tBl_ap, tBlK_some, tNotM_ap, tAndM_ap, tOrM_ap, tTrue_ap, mIf_ap, mAnd_ap, mOr_ap, andK_some, orK_some, mArgs_nil, mArgs_cons, mOwns_nil, mOwns_cons, mList_ap, mTup_ap, mCallB_ap, finL1, finL2, finL3, finL4, finL5, finT2, finT3, vwK_some, vws_nil, vws_cons, opsK_some, finB_ap, len_scr, len_lst, len_tup, abs_i, min_ii, max_ii, int_b, int_i, seqK_nx, seqK_rt, seqK_ex, seqK_bk, seqK_ct, seqK_if, sSeq_ap, sNil_ap, sPass_ap, sBreak_ap, sCont_ap, sRet_ap, sRetN_ap, sIf_ap, sExpr_ap, nxK_some, sAsg_ap, gNm_ap, own_false, own_val, own_cell, own_fr, sPar2_ap, sPar3_ap, par2K_ap, par3K_ap, gVals_nil, gVK_some, gVals_cons, gTu_tup, gTu_lst, gTu_fr, finF_nx, finF_ex, finF_rt, finR_val, finR_fr, finF_if, mCallF_ap, mMake_ap, mMeth_ap, clsOf_obj, mAttr_ap, finA_obj, ite_true', ite_false', ite_T, ite_F, sFor_ap, iVal_ap, finI_lst, finI_fr, finI_tup, decide_eq_true_eq, Bool.not_eq_true', decide_eq_false_iff_not, Nat.reduceAdd, mLm_ap, lmK_cell, isLst_lst, finLm0, finLm1, finLm2, lm3K_lst, lm4K_some, get_end, set_end, is_non, isnot_non, isNon_non, isNon_int, isNon_tup, isNon_obj, eq_bb, Bool.not_true, Bool.not_false, e1, e2, e3, e4, e5, finT2, finT4, dE, d0, d1, d2, d3]
  by_cases c2 : fo = 2
  · skip
    have d0 : decide (fo = 0) = false := decide_eq_false (by omega)
    have d1 : decide (fo = 1) = false := decide_eq_false (by omega)
    have d2 : decide (fo = 2) = true := decide_eq_true (by omega)
    have d3 : decide (fo = 3) = false := decide_eq_false (by omega)
    obtain ⟨a', b', ia', ib', μ', e, r⟩ := st (none) (none) ⟨trivial, trivial⟩
    refine ⟨a', b', ia', ib', μ', ?_, r⟩
    rw [← e]
    simp only [mVar_ap, slotM_some, List.getElem?_cons_zero, List.getElem?_cons_succ, List.set_cons_zero, List.set_cons_succ, mK_ap, andThen_ok, andThen_if, exThen_ok, exThen_if, vw_val, vw_fr, vw_cell, cellV_lst, cellV_frz, rt_val, rt_fr, rt_cell, fin2_ap, fin2K_some, opK_some, fin1_ap, op1K_some, mOp2_ap, mOp1_ap, add_ii, sub_ii, neg_i, not_b, lt_ii, le_ii, gt_ii, ge_ii, eq_ii, ne_ii, ix_lst, Sz.ix_tup, ix_scr, omap_some, atI0, atI1, atI2, bl?_bl, tBl_ap, tBlK_some, tNotM_ap, tAndM_ap, tOrM_ap, tTrue_ap, mIf_ap, mAnd_ap, mOr_ap, andK_some, orK_some, mArgs_nil, mArgs_cons, mOwns_nil, mOwns_cons, mList_ap, mTup_ap, mCallB_ap, finL1, finL2, finL3, finL4, finL5, finT2, finT3, vwK_some, vws_nil, vws_cons, opsK_some, finB_ap, len_scr, len_lst, len_tup, abs_i, min_ii, max_ii, int_b, int_i, seqK_nx, seqK_rt, seqK_ex, seqK_bk, seqK_ct, seqK_if, sSeq_ap, sNil_ap, sPass_ap, sBreak_ap, sCont_ap, sRet_ap, sRetN_ap, sIf_ap, sExpr_ap, nxK_some, sAsg_ap, gNm_ap, own_false, own_val, own_cell, own_fr, sPar2_ap, sPar3_ap, par2K_ap, par3K_ap, gVals_nil, gVK_some, gVals_cons, gTu_tup, gTu_lst, gTu_fr, finF_nx, finF_ex, finF_rt, finR_val, finR_fr, finF_if, mCallF_ap, mMake_ap, mMeth_ap, clsOf_obj, mAttr_ap, finA_obj, ite_true', ite_false', ite_T, ite_F, sFor_ap, iVal_ap, finI_lst, finI_fr, finI_tup, decide_eq_true_eq, Bool.not_eq_true', decide_eq_false_iff_not, Nat.reduceAdd, mLm_ap, lmK_cell, isLst_lst, finLm0, finLm1, finLm2, lm3K_lst, lm4K_some, get_end, set_end, is_non, isnot_non, isNon_non, isNon_int, isNon_tup, isNon_obj, eq_bb, Bool.not_true, Bool.not_false, e1, e2, e3, e4, e5, finT2, finT4, dE, d0, d1, d2, d3]
  by_cases c3 : fo = 3
  · skip
    have d0 : decide (fo = 0) = false := decide_eq_false (by omega)
    have d1 : decide (fo = 1) = false := decide_eq_false (by omega)
    have d2 : decide (fo = 2) = false := decide_eq_false (by omega)
    have d3 : decide (fo = 3) = true := decide_eq_true (by omega)
    obtain ⟨a', b', ia', ib', μ', e, r⟩ := st (some b) (some b) ⟨fb, fb⟩
    refine ⟨a', b', ia', ib', μ', ?_, r⟩
    rw [← e]
    simp only [mVar_ap, slotM_some, List.getElem?_cons_zero, List.getElem?_cons_succ, List.set_cons_zero, List.set_cons_succ, mK_ap, andThen_ok, andThen_if, exThen_ok, exThen_if, vw_val, vw_fr, vw_cell, cellV_lst, cellV_frz, rt_val, rt_fr, rt_cell, fin2_ap, fin2K_some, opK_some, fin1_ap, op1K_some, mOp2_ap, mOp1_ap, add_ii, sub_ii, neg_i, not_b, lt_ii, le_ii, gt_ii, ge_ii, eq_ii, ne_ii, ix_lst, Sz.ix_tup, ix_scr, omap_some, atI0, atI1, atI2, bl?_bl, tBl_ap, tBlK_some, tNotM_ap, tAndM_ap, tOrM_ap, tTrue_ap, mIf_ap, mAnd_ap, mOr_ap, andK_some, orK_some, mArgs_nil, mArgs_cons, mOwns_nil, mOwns_cons, mList_ap, mTup_ap, mCallB_ap, finL1, finL2, finL3, finL4, finL5, finT2, finT3, vwK_some, vws_nil, vws_cons, opsK_some, finB_ap, len_scr, len_lst, len_tup, abs_i, min_ii, max_ii, int_b, int_i, seqK_nx, seqK_rt, seqK_ex, seqK_bk, seqK_ct, seqK_if, sSeq_ap, sNil_ap, sPass_ap, sBreak_ap, sCont_ap, sRet_ap, sRetN_ap, sIf_ap, sExpr_ap, nxK_some, sAsg_ap, gNm_ap, own_false, own_val, own_cell, own_fr, sPar2_ap, sPar3_ap, par2K_ap, par3K_ap, gVals_nil, gVK_some, gVals_cons, gTu_tup, gTu_lst, gTu_fr, finF_nx, finF_ex, finF_rt, finR_val, finR_fr, finF_if, mCallF_ap, mMake_ap, mMeth_ap, clsOf_obj, mAttr_ap, finA_obj, ite_true', ite_false', ite_T, ite_F, sFor_ap, iVal_ap, finI_lst, finI_fr, finI_tup, decide_eq_true_eq, Bool.not_eq_true', decide_eq_false_iff_not, Nat.reduceAdd, mLm_ap, lmK_cell, isLst_lst, finLm0, finLm1, finLm2, lm3K_lst, lm4K_some, get_end, set_end, is_non, isnot_non, isNon_non, isNon_int, isNon_tup, isNon_obj, eq_bb, Bool.not_true, Bool.not_false, e1, e2, e3, e4, e5, finT2, finT4, dE, d0, d1, d2, d3]
  · skip
    have d0 : decide (fo = 0) = false := decide_eq_false (by omega)
    have d1 : decide (fo = 1) = false := decide_eq_false (by omega)
    have d2 : decide (fo = 2) = false := decide_eq_false (by omega)
    have d3 : decide (fo = 3) = false := decide_eq_false (by omega)
    obtain ⟨a', b', ia', ib', μ', e, r⟩ := st (some a) (some b) ⟨fa, fb⟩
    refine ⟨a', b', ia', ib', μ', ?_, r⟩
    rw [← e]
    simp only [mVar_ap, slotM_some, List.getElem?_cons_zero, List.getElem?_cons_succ, List.set_cons_zero, List.set_cons_succ, mK_ap, andThen_ok, andThen_if, exThen_ok, exThen_if, vw_val, vw_fr, vw_cell, cellV_lst, cellV_frz, rt_val, rt_fr, rt_cell, fin2_ap, fin2K_some, opK_some, fin1_ap, op1K_some, mOp2_ap, mOp1_ap, add_ii, sub_ii, neg_i, not_b, lt_ii, le_ii, gt_ii, ge_ii, eq_ii, ne_ii, ix_lst, Sz.ix_tup, ix_scr, omap_some, atI0, atI1, atI2, bl?_bl, tBl_ap, tBlK_some, tNotM_ap, tAndM_ap, tOrM_ap, tTrue_ap, mIf_ap, mAnd_ap, mOr_ap, andK_some, orK_some, mArgs_nil, mArgs_cons, mOwns_nil, mOwns_cons, mList_ap, mTup_ap, mCallB_ap, finL1, finL2, finL3, finL4, finL5, finT2, finT3, vwK_some, vws_nil, vws_cons, opsK_some, finB_ap, len_scr, len_lst, len_tup, abs_i, min_ii, max_ii, int_b, int_i, seqK_nx, seqK_rt, seqK_ex, seqK_bk, seqK_ct, seqK_if, sSeq_ap, sNil_ap, sPass_ap, sBreak_ap, sCont_ap, sRet_ap, sRetN_ap, sIf_ap, sExpr_ap, nxK_some, sAsg_ap, gNm_ap, own_false, own_val, own_cell, own_fr, sPar2_ap, sPar3_ap, par2K_ap, par3K_ap, gVals_nil, gVK_some, gVals_cons, gTu_tup, gTu_lst, gTu_fr, finF_nx, finF_ex, finF_rt, finR_val, finR_fr, finF_if, mCallF_ap, mMake_ap, mMeth_ap, clsOf_obj, mAttr_ap, finA_obj, ite_true', ite_false', ite_T, ite_F, sFor_ap, iVal_ap, finI_lst, finI_fr, finI_tup, decide_eq_true_eq, Bool.not_eq_true', decide_eq_false_iff_not, Nat.reduceAdd, mLm_ap, lmK_cell, isLst_lst, finLm0, finLm1, finLm2, lm3K_lst, lm4K_some, get_end, set_end, is_non, isnot_non, isNon_non, isNon_int, isNon_tup, isNon_obj, eq_bb, Bool.not_true, Bool.not_false, e1, e2, e3, e4, e5, finT2, finT4, dE, d0, d1, d2, d3]
theorem isi_int {i : Int} : bIsi nKit nKit subK [.int i, .ty "int"] = some (.val (.bl true)) := rfl
theorem isi_int_b {i : Int} : bIsi nKit nKit subK [.int i, .ty "bool"] = some (.val (.bl false)) := rfl
theorem isi_bl_b {b : Bool} : bIsi nKit nKit subK [.bl b, .ty "bool"] = some (.val (.bl true)) := rfl
theorem is_whole_int {i : Int} {μ : Sto} : callF fi_is_whole 1 [] [.val (.int i)] [] μ = some (.ok (.val (.bl true)), μ) := by
  rw [show callF fi_is_whole 1 [] [.val (.int i)] [] μ = fi_is_whole.sem [.val (.int i)] μ from callF_eq rfl rfl rfl]
  rw [show fi_is_whole.sem [.val (.int i)] μ = finF μ.length (c_is_whole [some (.val (.int i))] μ) from rfl]
  unfold c_is_whole
  simp only [mVar_ap, slotM_some, List.getElem?_cons_zero, List.getElem?_cons_succ, List.set_cons_zero, List.set_cons_succ, mK_ap, andThen_ok, andThen_if, exThen_ok, exThen_if, vw_val, vw_fr, vw_cell, cellV_lst, cellV_frz, rt_val, rt_fr, rt_cell, fin2_ap, fin2K_some, opK_some, fin1_ap, op1K_some, mOp2_ap, mOp1_ap, add_ii, sub_ii, neg_i, not_b, lt_ii, le_ii, gt_ii, ge_ii, eq_ii, ne_ii, ix_lst, Sz.ix_tup, ix_scr, omap_some, atI0, atI1, atI2, bl?_bl, tBl_ap, tBlK_some, tNotM_ap, tAndM_ap, tOrM_ap, tTrue_ap, mIf_ap, mAnd_ap, mOr_ap, andK_some, orK_some, mArgs_nil, mArgs_cons, mOwns_nil, mOwns_cons, mList_ap, mTup_ap, mCallB_ap, finL1, finL2, finL3, finL4, finL5, finT2, finT3, vwK_some, vws_nil, vws_cons, opsK_some, finB_ap, len_scr, len_lst, len_tup, abs_i, min_ii, max_ii, int_b, int_i, seqK_nx, seqK_rt, seqK_ex, seqK_bk, seqK_ct, seqK_if, sSeq_ap, sNil_ap, sPass_ap, sBreak_ap, sCont_ap, sRet_ap, sRetN_ap, sIf_ap, sExpr_ap, nxK_some, sAsg_ap, gNm_ap, own_false, own_val, own_cell, own_fr, sPar2_ap, sPar3_ap, par2K_ap, par3K_ap, gVals_nil, gVK_some, gVals_cons, gTu_tup, gTu_lst, gTu_fr, finF_nx, finF_ex, finF_rt, finR_val, finR_fr, finF_if, mCallF_ap, mMake_ap, mMeth_ap, clsOf_obj, mAttr_ap, finA_obj, ite_true', ite_false', ite_T, ite_F, sFor_ap, iVal_ap, finI_lst, finI_fr, finI_tup, decide_eq_true_eq, Bool.not_eq_true', decide_eq_false_iff_not, Nat.reduceAdd, mLm_ap, lmK_cell, isLst_lst, finLm0, finLm1, finLm2, lm3K_lst, lm4K_some, get_end, set_end, is_non, isnot_non, isNon_non, isNon_int, isNon_tup, isNon_obj, eq_bb, Bool.not_true, Bool.not_false, isi_int, isi_int_b]
  rw [List.take_length]
  all_goals rfl
theorem common_call {a b : Nat} {μ : Sto} : callF fi_common_part 2 [] [.val (.int (a : Int)), .val (.int (b : Int))] [] μ = some (.ok (.val (.int (Nat.gcd a b : Int))), μ) := by
  rw [show callF fi_common_part 2 [] [.val (.int (a : Int)), .val (.int (b : Int))] [] μ = fi_common_part.sem [.val (.int (a : Int)), .val (.int (b : Int))] μ from callF_eq rfl rfl rfl]
  rw [show fi_common_part.sem [.val (.int (a : Int)), .val (.int (b : Int))] μ = finF μ.length (c_common_part [some (.val (.int (a : Int))), some (.val (.int (b : Int)))] μ) from rfl]
  unfold c_common_part
  obtain ⟨n, hn⟩ := euclid (t := tBl (mOp2 dGt (mVar 1) (mK (.int 0)))) (b := c_common_part_b1) (mk := fun x y => [some (.val (.int (x : Int))), some (.val (.int (y : Int)))]) (μ := μ)
    (fun x => by simp only [mVar_ap, slotM_some, List.getElem?_cons_zero, List.getElem?_cons_succ, List.set_cons_zero, List.set_cons_succ, mK_ap, andThen_ok, andThen_if, exThen_ok, exThen_if, vw_val, vw_fr, vw_cell, cellV_lst, cellV_frz, rt_val, rt_fr, rt_cell, fin2_ap, fin2K_some, opK_some, fin1_ap, op1K_some, mOp2_ap, mOp1_ap, add_ii, sub_ii, neg_i, not_b, lt_ii, le_ii, gt_ii, ge_ii, eq_ii, ne_ii, ix_lst, Sz.ix_tup, ix_scr, omap_some, atI0, atI1, atI2, bl?_bl, tBl_ap, tBlK_some, tNotM_ap, tAndM_ap, tOrM_ap, tTrue_ap, mIf_ap, mAnd_ap, mOr_ap, andK_some, orK_some, mArgs_nil, mArgs_cons, mOwns_nil, mOwns_cons, mList_ap, mTup_ap, mCallB_ap, finL1, finL2, finL3, finL4, finL5, finT2, finT3, vwK_some, vws_nil, vws_cons, opsK_some, finB_ap, len_scr, len_lst, len_tup, abs_i, min_ii, max_ii, int_b, int_i, seqK_nx, seqK_rt, seqK_ex, seqK_bk, seqK_ct, seqK_if, sSeq_ap, sNil_ap, sPass_ap, sBreak_ap, sCont_ap, sRet_ap, sRetN_ap, sIf_ap, sExpr_ap, nxK_some, sAsg_ap, gNm_ap, own_false, own_val, own_cell, own_fr, sPar2_ap, sPar3_ap, par2K_ap, par3K_ap, gVals_nil, gVK_some, gVals_cons, gTu_tup, gTu_lst, gTu_fr, finF_nx, finF_ex, finF_rt, finR_val, finR_fr, finF_if, mCallF_ap, mMake_ap, mMeth_ap, clsOf_obj, mAttr_ap, finA_obj, ite_true', ite_false', ite_T, ite_F, sFor_ap, iVal_ap, finI_lst, finI_fr, finI_tup, decide_eq_true_eq, Bool.not_eq_true', decide_eq_false_iff_not, Nat.reduceAdd, mLm_ap, lmK_cell, isLst_lst, finLm0, finLm1, finLm2, lm3K_lst, lm4K_some, get_end, set_end, is_non, isnot_non, isNon_non, isNon_int, isNon_tup, isNon_obj, eq_bb, Bool.not_true, Bool.not_false]; rfl) (fun x y hy => by simp only [mVar_ap, slotM_some, List.getElem?_cons_zero, List.getElem?_cons_succ, List.set_cons_zero, List.set_cons_succ, mK_ap, andThen_ok, andThen_if, exThen_ok, exThen_if, vw_val, vw_fr, vw_cell, cellV_lst, cellV_frz, rt_val, rt_fr, rt_cell, fin2_ap, fin2K_some, opK_some, fin1_ap, op1K_some, mOp2_ap, mOp1_ap, add_ii, sub_ii, neg_i, not_b, lt_ii, le_ii, gt_ii, ge_ii, eq_ii, ne_ii, ix_lst, Sz.ix_tup, ix_scr, omap_some, atI0, atI1, atI2, bl?_bl, tBl_ap, tBlK_some, tNotM_ap, tAndM_ap, tOrM_ap, tTrue_ap, mIf_ap, mAnd_ap, mOr_ap, andK_some, orK_some, mArgs_nil, mArgs_cons, mOwns_nil, mOwns_cons, mList_ap, mTup_ap, mCallB_ap, finL1, finL2, finL3, finL4, finL5, finT2, finT3, vwK_some, vws_nil, vws_cons, opsK_some, finB_ap, len_scr, len_lst, len_tup, abs_i, min_ii, max_ii, int_b, int_i, seqK_nx, seqK_rt, seqK_ex, seqK_bk, seqK_ct, seqK_if, sSeq_ap, sNil_ap, sPass_ap, sBreak_ap, sCont_ap, sRet_ap, sRetN_ap, sIf_ap, sExpr_ap, nxK_some, sAsg_ap, gNm_ap, own_false, own_val, own_cell, own_fr, sPar2_ap, sPar3_ap, par2K_ap, par3K_ap, gVals_nil, gVK_some, gVals_cons, gTu_tup, gTu_lst, gTu_fr, finF_nx, finF_ex, finF_rt, finR_val, finR_fr, finF_if, mCallF_ap, mMake_ap, mMeth_ap, clsOf_obj, mAttr_ap, finA_obj, ite_true', ite_false', ite_T, ite_F, sFor_ap, iVal_ap, finI_lst, finI_fr, finI_tup, decide_eq_true_eq, Bool.not_eq_true', decide_eq_false_iff_not, Nat.reduceAdd, mLm_ap, lmK_cell, isLst_lst, finLm0, finLm1, finLm2, lm3K_lst, lm4K_some, get_end, set_end, is_non, isnot_non, isNon_non, isNon_int, isNon_tup, isNon_obj, eq_bb, Bool.not_true, Bool.not_false]; rw [decide_eq_true (by omega)]) (fun x y hy => by
      have q := mod_ii (i := (x : Int)) (j := (y : Int)) (by omega)
      unfold c_common_part_b1
      simp only [mVar_ap, slotM_some, List.getElem?_cons_zero, List.getElem?_cons_succ, List.set_cons_zero, List.set_cons_succ, mK_ap, andThen_ok, andThen_if, exThen_ok, exThen_if, vw_val, vw_fr, vw_cell, cellV_lst, cellV_frz, rt_val, rt_fr, rt_cell, fin2_ap, fin2K_some, opK_some, fin1_ap, op1K_some, mOp2_ap, mOp1_ap, add_ii, sub_ii, neg_i, not_b, lt_ii, le_ii, gt_ii, ge_ii, eq_ii, ne_ii, ix_lst, Sz.ix_tup, ix_scr, omap_some, atI0, atI1, atI2, bl?_bl, tBl_ap, tBlK_some, tNotM_ap, tAndM_ap, tOrM_ap, tTrue_ap, mIf_ap, mAnd_ap, mOr_ap, andK_some, orK_some, mArgs_nil, mArgs_cons, mOwns_nil, mOwns_cons, mList_ap, mTup_ap, mCallB_ap, finL1, finL2, finL3, finL4, finL5, finT2, finT3, vwK_some, vws_nil, vws_cons, opsK_some, finB_ap, len_scr, len_lst, len_tup, abs_i, min_ii, max_ii, int_b, int_i, seqK_nx, seqK_rt, seqK_ex, seqK_bk, seqK_ct, seqK_if, sSeq_ap, sNil_ap, sPass_ap, sBreak_ap, sCont_ap, sRet_ap, sRetN_ap, sIf_ap, sExpr_ap, nxK_some, sAsg_ap, gNm_ap, own_false, own_val, own_cell, own_fr, sPar2_ap, sPar3_ap, par2K_ap, par3K_ap, gVals_nil, gVK_some, gVals_cons, gTu_tup, gTu_lst, gTu_fr, finF_nx, finF_ex, finF_rt, finR_val, finR_fr, finF_if, mCallF_ap, mMake_ap, mMeth_ap, clsOf_obj, mAttr_ap, finA_obj, ite_true', ite_false', ite_T, ite_F, sFor_ap, iVal_ap, finI_lst, finI_fr, finI_tup, decide_eq_true_eq, Bool.not_eq_true', decide_eq_false_iff_not, Nat.reduceAdd, mLm_ap, lmK_cell, isLst_lst, finLm0, finLm1, finLm2, lm3K_lst, lm4K_some, get_end, set_end, is_non, isnot_non, isNon_non, isNon_int, isNon_tup, isNon_obj, eq_bb, Bool.not_true, Bool.not_false, q]
      rw [Int.fmod_eq_emod_of_nonneg _ (by omega)]
      rfl) b a
  have hn := sWhile_eq n hn
  simp only [mVar_ap, slotM_some, List.getElem?_cons_zero, List.getElem?_cons_succ, List.set_cons_zero, List.set_cons_succ, mK_ap, andThen_ok, andThen_if, exThen_ok, exThen_if, vw_val, vw_fr, vw_cell, cellV_lst, cellV_frz, rt_val, rt_fr, rt_cell, fin2_ap, fin2K_some, opK_some, fin1_ap, op1K_some, mOp2_ap, mOp1_ap, add_ii, sub_ii, neg_i, not_b, lt_ii, le_ii, gt_ii, ge_ii, eq_ii, ne_ii, ix_lst, Sz.ix_tup, ix_scr, omap_some, atI0, atI1, atI2, bl?_bl, tBl_ap, tBlK_some, tNotM_ap, tAndM_ap, tOrM_ap, tTrue_ap, mIf_ap, mAnd_ap, mOr_ap, andK_some, orK_some, mArgs_nil, mArgs_cons, mOwns_nil, mOwns_cons, mList_ap, mTup_ap, mCallB_ap, finL1, finL2, finL3, finL4, finL5, finT2, finT3, vwK_some, vws_nil, vws_cons, opsK_some, finB_ap, len_scr, len_lst, len_tup, abs_i, min_ii, max_ii, int_b, int_i, seqK_nx, seqK_rt, seqK_ex, seqK_bk, seqK_ct, seqK_if, sSeq_ap, sNil_ap, sPass_ap, sBreak_ap, sCont_ap, sRet_ap, sRetN_ap, sIf_ap, sExpr_ap, nxK_some, sAsg_ap, gNm_ap, own_false, own_val, own_cell, own_fr, sPar2_ap, sPar3_ap, par2K_ap, par3K_ap, gVals_nil, gVK_some, gVals_cons, gTu_tup, gTu_lst, gTu_fr, finF_nx, finF_ex, finF_rt, finR_val, finR_fr, finF_if, mCallF_ap, mMake_ap, mMeth_ap, clsOf_obj, mAttr_ap, finA_obj, ite_true', ite_false', ite_T, ite_F, sFor_ap, iVal_ap, finI_lst, finI_fr, finI_tup, decide_eq_true_eq, Bool.not_eq_true', decide_eq_false_iff_not, Nat.reduceAdd, mLm_ap, lmK_cell, isLst_lst, finLm0, finLm1, finLm2, lm3K_lst, lm4K_some, get_end, set_end, is_non, isnot_non, isNon_non, isNon_int, isNon_tup, isNon_obj, eq_bb, Bool.not_true, Bool.not_false, hn]
  rw [List.take_length]
theorem fd_exact {i j : Int} (h : j ∣ i) (hj : j ≠ 0) : i.fdiv j * j = i := Int.fdiv_mul_cancel h
theorem bd_dvd {n : Nat} {i j : Int} (h : j ∣ i) (hj : j ≠ 0) (hb : Bd n i) : Bd n (i.fdiv j) := by
  have e := fd_exact h hj
  have h2 : (i.fdiv j * j).natAbs = i.natAbs := by rw [e]
  rw [Int.natAbs_mul] at h2
  unfold Bd at *
  have h3 : 0 < j.natAbs := by omega
  have : (i.fdiv j).natAbs ≤ (i.fdiv j).natAbs * j.natAbs := Nat.le_mul_of_pos_right _ h3
  omega
/-- Measure(a, b) of whole numbers, b not nought -/
theorem measure_make {n : Nat} {a b : Int} (hb : b ≠ 0) (h1 : Bd n a) (h2 : Bd n b) (hn9 : n ≤ 9000 := by decide) :
    ∃ t u : Int, (∀ μ : Sto, callM mk_Measure 2 [] [.val (.int a), .val (.int b)] [] μ = some (.ok (.val (.obj 0 [.int t, .int u])), μ)) ∧ 0 < u ∧ t * b = a * u ∧ Bd n t ∧ Bd n u ∧ Nat.gcd t.natAbs u.natAbs = 1 := by
  have hg : 0 < Nat.gcd a.natAbs b.natAbs := Nat.gcd_pos_of_pos_right _ (by omega)
  have da : (Nat.gcd a.natAbs b.natAbs : Int) ∣ a := Int.ofNat_dvd_left.mpr (Nat.gcd_dvd_left _ _)
  have db : (Nat.gcd a.natAbs b.natAbs : Int) ∣ b := Int.ofNat_dvd_left.mpr (Nat.gcd_dvd_right _ _)
  have bg : Bd n (Nat.gcd a.natAbs b.natAbs : Int) := by
    have : Nat.gcd a.natAbs b.natAbs ≤ b.natAbs := Nat.gcd_le_right _ (by omega)
    unfold Bd at *
    omega
  generalize hG : Nat.gcd a.natAbs b.natAbs = G at *
  have fin : ∀ p : Int, p ≠ 0 → p ∣ a → p ∣ b → Bd n p → p.natAbs = G → 0 < b.fdiv p → (∀ μ : Sto, finM mk_Measure μ.length (finF (μ ++ [C.ins 0 []]).length (seqK (some (.nx, [some (.cell μ.length), some (.val (.int a)), some (.val (.int b)), some (.val (.int p))], μ ++ [.ins 0 []])) (sSeq (sFldM nCls "top" (mVar 0) (mOp2 dFdiv (mVar 1) (mVar 3))) (sSeq (sFldM nCls "bottom" (mVar 0) (mOp2 dFdiv (mVar 2) (mVar 3))) sNil)))) = some (.ok (.val (.obj 0 [.int (a.fdiv p), .int (b.fdiv p)])), μ)) ∧ 0 < b.fdiv p ∧ a.fdiv p * b = a * b.fdiv p ∧ Bd n (a.fdiv p) ∧ Bd n (b.fdiv p) ∧ Nat.gcd (a.fdiv p).natAbs (b.fdiv p).natAbs = 1 := by
    intro p hp da db bp hpG hu
    have f1 := fdiv_ii (i := a) n hp bp hn9
    have f2 := fdiv_ii (i := b) n hp bp hn9
    refine ⟨fun μ => ?_, hu, ?_, bd_dvd da hp h1, bd_dvd db hp h2, ?_⟩
    · rw [seqK_nx, sSeq_ap, fld_ap (d := .int (a.fdiv p)) (k := μ.length) (c := 0) (fs := []) (by simp only [mVar_ap, slotM_some, List.getElem?_cons_zero, List.getElem?_cons_succ, List.set_cons_zero, List.set_cons_succ, mK_ap, andThen_ok, andThen_if, exThen_ok, exThen_if, vw_val, vw_fr, vw_cell, cellV_lst, cellV_frz, rt_val, rt_fr, rt_cell, fin2_ap, fin2K_some, opK_some, fin1_ap, op1K_some, mOp2_ap, mOp1_ap, add_ii, sub_ii, neg_i, not_b, lt_ii, le_ii, gt_ii, ge_ii, eq_ii, ne_ii, ix_lst, Sz.ix_tup, ix_scr, omap_some, atI0, atI1, atI2, bl?_bl, tBl_ap, tBlK_some, tNotM_ap, tAndM_ap, tOrM_ap, tTrue_ap, mIf_ap, mAnd_ap, mOr_ap, andK_some, orK_some, mArgs_nil, mArgs_cons, mOwns_nil, mOwns_cons, mList_ap, mTup_ap, mCallB_ap, finL1, finL2, finL3, finL4, finL5, finT2, finT3, vwK_some, vws_nil, vws_cons, opsK_some, finB_ap, len_scr, len_lst, len_tup, abs_i, min_ii, max_ii, int_b, int_i, seqK_nx, seqK_rt, seqK_ex, seqK_bk, seqK_ct, seqK_if, sSeq_ap, sNil_ap, sPass_ap, sBreak_ap, sCont_ap, sRet_ap, sRetN_ap, sIf_ap, sExpr_ap, nxK_some, sAsg_ap, gNm_ap, own_false, own_val, own_cell, own_fr, sPar2_ap, sPar3_ap, par2K_ap, par3K_ap, gVals_nil, gVK_some, gVals_cons, gTu_tup, gTu_lst, gTu_fr, finF_nx, finF_ex, finF_rt, finR_val, finR_fr, finF_if, mCallF_ap, mMake_ap, mMeth_ap, clsOf_obj, mAttr_ap, finA_obj, ite_true', ite_false', ite_T, ite_F, sFor_ap, iVal_ap, finI_lst, finI_fr, finI_tup, decide_eq_true_eq, Bool.not_eq_true', decide_eq_false_iff_not, Nat.reduceAdd, mLm_ap, lmK_cell, isLst_lst, finLm0, finLm1, finLm2, lm3K_lst, lm4K_some, get_end, set_end, is_non, isnot_non, isNon_non, isNon_int, isNon_tup, isNon_obj, eq_bb, Bool.not_true, Bool.not_false, f1]) (by simp only [mVar_ap, slotM_some, List.getElem?_cons_zero, List.getElem?_cons_succ, List.set_cons_zero, List.set_cons_succ, mK_ap, andThen_ok, andThen_if, exThen_ok, exThen_if, vw_val, vw_fr, vw_cell, cellV_lst, cellV_frz, rt_val, rt_fr, rt_cell, fin2_ap, fin2K_some, opK_some, fin1_ap, op1K_some, mOp2_ap, mOp1_ap, add_ii, sub_ii, neg_i, not_b, lt_ii, le_ii, gt_ii, ge_ii, eq_ii, ne_ii, ix_lst, Sz.ix_tup, ix_scr, omap_some, atI0, atI1, atI2, bl?_bl, tBl_ap, tBlK_some, tNotM_ap, tAndM_ap, tOrM_ap, tTrue_ap, mIf_ap, mAnd_ap, mOr_ap, andK_some, orK_some, mArgs_nil, mArgs_cons, mOwns_nil, mOwns_cons, mList_ap, mTup_ap, mCallB_ap, finL1, finL2, finL3, finL4, finL5, finT2, finT3, vwK_some, vws_nil, vws_cons, opsK_some, finB_ap, len_scr, len_lst, len_tup, abs_i, min_ii, max_ii, int_b, int_i, seqK_nx, seqK_rt, seqK_ex, seqK_bk, seqK_ct, seqK_if, sSeq_ap, sNil_ap, sPass_ap, sBreak_ap, sCont_ap, sRet_ap, sRetN_ap, sIf_ap, sExpr_ap, nxK_some, sAsg_ap, gNm_ap, own_false, own_val, own_cell, own_fr, sPar2_ap, sPar3_ap, par2K_ap, par3K_ap, gVals_nil, gVK_some, gVals_cons, gTu_tup, gTu_lst, gTu_fr, finF_nx, finF_ex, finF_rt, finR_val, finR_fr, finF_if, mCallF_ap, mMake_ap, mMeth_ap, clsOf_obj, mAttr_ap, finA_obj, ite_true', ite_false', ite_T, ite_F, sFor_ap, iVal_ap, finI_lst, finI_fr, finI_tup, decide_eq_true_eq, Bool.not_eq_true', decide_eq_false_iff_not, Nat.reduceAdd, mLm_ap, lmK_cell, isLst_lst, finLm0, finLm1, finLm2, lm3K_lst, lm4K_some, get_end, set_end, is_non, isnot_non, isNon_non, isNon_int, isNon_tup, isNon_obj, eq_bb, Bool.not_true, Bool.not_false]) get_end (by decide) (by decide), set_end]
      rw [show putD ("top" : Str) (D.int (a.fdiv p)) [] = [(("top" : Str), D.int (a.fdiv p))] from rfl]
      rw [seqK_nx, sSeq_ap, fld_ap (n := nCls) (d := .int (b.fdiv p)) (k := μ.length) (c := 0) (fs := [("top", .int (a.fdiv p))]) (by simp only [mVar_ap, slotM_some, List.getElem?_cons_zero, List.getElem?_cons_succ, List.set_cons_zero, List.set_cons_succ, mK_ap, andThen_ok, andThen_if, exThen_ok, exThen_if, vw_val, vw_fr, vw_cell, cellV_lst, cellV_frz, rt_val, rt_fr, rt_cell, fin2_ap, fin2K_some, opK_some, fin1_ap, op1K_some, mOp2_ap, mOp1_ap, add_ii, sub_ii, neg_i, not_b, lt_ii, le_ii, gt_ii, ge_ii, eq_ii, ne_ii, ix_lst, Sz.ix_tup, ix_scr, omap_some, atI0, atI1, atI2, bl?_bl, tBl_ap, tBlK_some, tNotM_ap, tAndM_ap, tOrM_ap, tTrue_ap, mIf_ap, mAnd_ap, mOr_ap, andK_some, orK_some, mArgs_nil, mArgs_cons, mOwns_nil, mOwns_cons, mList_ap, mTup_ap, mCallB_ap, finL1, finL2, finL3, finL4, finL5, finT2, finT3, vwK_some, vws_nil, vws_cons, opsK_some, finB_ap, len_scr, len_lst, len_tup, abs_i, min_ii, max_ii, int_b, int_i, seqK_nx, seqK_rt, seqK_ex, seqK_bk, seqK_ct, seqK_if, sSeq_ap, sNil_ap, sPass_ap, sBreak_ap, sCont_ap, sRet_ap, sRetN_ap, sIf_ap, sExpr_ap, nxK_some, sAsg_ap, gNm_ap, own_false, own_val, own_cell, own_fr, sPar2_ap, sPar3_ap, par2K_ap, par3K_ap, gVals_nil, gVK_some, gVals_cons, gTu_tup, gTu_lst, gTu_fr, finF_nx, finF_ex, finF_rt, finR_val, finR_fr, finF_if, mCallF_ap, mMake_ap, mMeth_ap, clsOf_obj, mAttr_ap, finA_obj, ite_true', ite_false', ite_T, ite_F, sFor_ap, iVal_ap, finI_lst, finI_fr, finI_tup, decide_eq_true_eq, Bool.not_eq_true', decide_eq_false_iff_not, Nat.reduceAdd, mLm_ap, lmK_cell, isLst_lst, finLm0, finLm1, finLm2, lm3K_lst, lm4K_some, get_end, set_end, is_non, isnot_non, isNon_non, isNon_int, isNon_tup, isNon_obj, eq_bb, Bool.not_true, Bool.not_false, f2]) (by simp only [mVar_ap, slotM_some, List.getElem?_cons_zero, List.getElem?_cons_succ, List.set_cons_zero, List.set_cons_succ, mK_ap, andThen_ok, andThen_if, exThen_ok, exThen_if, vw_val, vw_fr, vw_cell, cellV_lst, cellV_frz, rt_val, rt_fr, rt_cell, fin2_ap, fin2K_some, opK_some, fin1_ap, op1K_some, mOp2_ap, mOp1_ap, add_ii, sub_ii, neg_i, not_b, lt_ii, le_ii, gt_ii, ge_ii, eq_ii, ne_ii, ix_lst, Sz.ix_tup, ix_scr, omap_some, atI0, atI1, atI2, bl?_bl, tBl_ap, tBlK_some, tNotM_ap, tAndM_ap, tOrM_ap, tTrue_ap, mIf_ap, mAnd_ap, mOr_ap, andK_some, orK_some, mArgs_nil, mArgs_cons, mOwns_nil, mOwns_cons, mList_ap, mTup_ap, mCallB_ap, finL1, finL2, finL3, finL4, finL5, finT2, finT3, vwK_some, vws_nil, vws_cons, opsK_some, finB_ap, len_scr, len_lst, len_tup, abs_i, min_ii, max_ii, int_b, int_i, seqK_nx, seqK_rt, seqK_ex, seqK_bk, seqK_ct, seqK_if, sSeq_ap, sNil_ap, sPass_ap, sBreak_ap, sCont_ap, sRet_ap, sRetN_ap, sIf_ap, sExpr_ap, nxK_some, sAsg_ap, gNm_ap, own_false, own_val, own_cell, own_fr, sPar2_ap, sPar3_ap, par2K_ap, par3K_ap, gVals_nil, gVK_some, gVals_cons, gTu_tup, gTu_lst, gTu_fr, finF_nx, finF_ex, finF_rt, finR_val, finR_fr, finF_if, mCallF_ap, mMake_ap, mMeth_ap, clsOf_obj, mAttr_ap, finA_obj, ite_true', ite_false', ite_T, ite_F, sFor_ap, iVal_ap, finI_lst, finI_fr, finI_tup, decide_eq_true_eq, Bool.not_eq_true', decide_eq_false_iff_not, Nat.reduceAdd, mLm_ap, lmK_cell, isLst_lst, finLm0, finLm1, finLm2, lm3K_lst, lm4K_some, get_end, set_end, is_non, isnot_non, isNon_non, isNon_int, isNon_tup, isNon_obj, eq_bb, Bool.not_true, Bool.not_false]) get_end (by decide) (by show _ < 1000; simp), set_end]
      rw [show putD ("bottom" : Str) (D.int (b.fdiv p)) [(("top" : Str), D.int (a.fdiv p))] = [(("top" : Str), D.int (a.fdiv p)), (("bottom" : Str), D.int (b.fdiv p))] from rfl]
      rw [seqK_nx, sNil_ap, finF_nx, List.length_append, List.take_of_length_le (by rw [List.length_append]; exact Nat.le_refl _)]
      rw [finM_ap (c := 0) (fs := [("top", .int (a.fdiv p)), ("bottom", .int (b.fdiv p))]) get_end rfl rfl, take_end]
      rfl
    · have ea := fd_exact da hp
      have eb := fd_exact db hp
      generalize a.fdiv p = x at *
      generalize b.fdiv p = y at *
      subst ea eb
      rw [Int.mul_comm y p, ← Int.mul_assoc]
    · have ea := congrArg Int.natAbs (fd_exact da hp)
      have eb := congrArg Int.natAbs (fd_exact db hp)
      rw [Int.natAbs_mul, hpG] at ea eb
      rw [← ea, ← eb, Nat.gcd_mul_right] at hG
      exact Nat.eq_of_mul_eq_mul_right hg (by rw [hG, Nat.one_mul])
  have hb0 : decide (b = 0) = false := decide_eq_false hb
  have q1 : (if b < 0 then (-b : Int) else b) = (b.natAbs : Int) := by split <;> omega
  have cc : ∀ μ : Sto, callF fi_common_part 2 [] [.val (.int (a.natAbs : Int)), .val (.int (b.natAbs : Int))] [] (μ ++ [.ins 0 []]) = some (.ok (.val (.int (G : Int))), μ ++ [.ins 0 []]) := fun μ => by rw [common_call, hG]
  have start : ∀ μ : Sto, callM mk_Measure 2 [] [.val (.int a), .val (.int b)] [] μ = finM mk_Measure μ.length (finF (μ ++ [C.ins 0 []]).length (c_Measure___init__ [some (.cell μ.length), some (.val (.int a)), some (.val (.int b)), none] (μ ++ [.ins 0 []]))) := fun μ =>
    (show callM mk_Measure 2 [] [.val (.int a), .val (.int b)] [] μ = finM mk_Measure μ.length (fi_Measure___init__.sem [.cell μ.length, .val (.int a), .val (.int b)] (μ ++ [.ins 0 []])) from callM_eq rfl rfl rfl).trans rfl
  by_cases hn : b < 0
  · obtain ⟨e, r⟩ := fin (0 - (G : Int)) (by omega) (by rw [Int.zero_sub]; exact Int.neg_dvd.mpr da) (by rw [Int.zero_sub]; exact Int.neg_dvd.mpr db) (by rw [Int.zero_sub]; exact bg.neg) (by omega) (by
      have e := fd_exact (i := b) (j := 0 - (G : Int)) (by rw [Int.zero_sub]; exact Int.neg_dvd.mpr db) (by omega)
      by_cases h : 0 < b.fdiv (0 - (G : Int))
      · exact h
      · have h0 : b.fdiv (0 - (G : Int)) ≤ 0 := by omega
        have : 0 ≤ b.fdiv (0 - (G : Int)) * (0 - (G : Int)) := Int.mul_nonneg_of_nonpos_of_nonpos h0 (by omega)
        omega)
    refine ⟨_, _, fun μ => ?_, r⟩
    rw [← e, start]
    unfold c_Measure___init__
    simp only [mVar_ap, slotM_some, List.getElem?_cons_zero, List.getElem?_cons_succ, List.set_cons_zero, List.set_cons_succ, mK_ap, andThen_ok, andThen_if, exThen_ok, exThen_if, vw_val, vw_fr, vw_cell, cellV_lst, cellV_frz, rt_val, rt_fr, rt_cell, fin2_ap, fin2K_some, opK_some, fin1_ap, op1K_some, mOp2_ap, mOp1_ap, add_ii, sub_ii, neg_i, not_b, lt_ii, le_ii, gt_ii, ge_ii, eq_ii, ne_ii, ix_lst, Sz.ix_tup, ix_scr, omap_some, atI0, atI1, atI2, bl?_bl, tBl_ap, tBlK_some, tNotM_ap, tAndM_ap, tOrM_ap, tTrue_ap, mIf_ap, mAnd_ap, mOr_ap, andK_some, orK_some, mArgs_nil, mArgs_cons, mOwns_nil, mOwns_cons, mList_ap, mTup_ap, mCallB_ap, finL1, finL2, finL3, finL4, finL5, finT2, finT3, vwK_some, vws_nil, vws_cons, opsK_some, finB_ap, len_scr, len_lst, len_tup, abs_i, min_ii, max_ii, int_b, int_i, seqK_nx, seqK_rt, seqK_ex, seqK_bk, seqK_ct, seqK_if, sSeq_ap, sNil_ap, sPass_ap, sBreak_ap, sCont_ap, sRet_ap, sRetN_ap, sIf_ap, sExpr_ap, nxK_some, sAsg_ap, gNm_ap, own_false, own_val, own_cell, own_fr, sPar2_ap, sPar3_ap, par2K_ap, par3K_ap, gVals_nil, gVK_some, gVals_cons, gTu_tup, gTu_lst, gTu_fr, finF_nx, finF_ex, finF_rt, finR_val, finR_fr, finF_if, mCallF_ap, mMake_ap, mMeth_ap, clsOf_obj, mAttr_ap, finA_obj, ite_true', ite_false', ite_T, ite_F, sFor_ap, iVal_ap, finI_lst, finI_fr, finI_tup, decide_eq_true_eq, Bool.not_eq_true', decide_eq_false_iff_not, Nat.reduceAdd, mLm_ap, lmK_cell, isLst_lst, finLm0, finLm1, finLm2, lm3K_lst, lm4K_some, get_end, set_end, is_non, isnot_non, isNon_non, isNon_int, isNon_tup, isNon_obj, eq_bb, Bool.not_true, Bool.not_false, is_whole_int, hb0, cc, hn, Bool.not_true, hb]
  · obtain ⟨e, r⟩ := fin (G : Int) (by omega) da db bg (by omega) (by
      have e := fd_exact (i := b) (j := (G : Int)) db (by omega)
      by_cases h : 0 < b.fdiv (G : Int)
      · exact h
      · have h0 : b.fdiv (G : Int) ≤ 0 := by omega
        have : b.fdiv (G : Int) * (G : Int) ≤ 0 := Int.mul_nonpos_of_nonpos_of_nonneg h0 (by omega)
        omega)
    refine ⟨_, _, fun μ => ?_, r⟩
    rw [← e, start]
    unfold c_Measure___init__
    simp only [mVar_ap, slotM_some, List.getElem?_cons_zero, List.getElem?_cons_succ, List.set_cons_zero, List.set_cons_succ, mK_ap, andThen_ok, andThen_if, exThen_ok, exThen_if, vw_val, vw_fr, vw_cell, cellV_lst, cellV_frz, rt_val, rt_fr, rt_cell, fin2_ap, fin2K_some, opK_some, fin1_ap, op1K_some, mOp2_ap, mOp1_ap, add_ii, sub_ii, neg_i, not_b, lt_ii, le_ii, gt_ii, ge_ii, eq_ii, ne_ii, ix_lst, Sz.ix_tup, ix_scr, omap_some, atI0, atI1, atI2, bl?_bl, tBl_ap, tBlK_some, tNotM_ap, tAndM_ap, tOrM_ap, tTrue_ap, mIf_ap, mAnd_ap, mOr_ap, andK_some, orK_some, mArgs_nil, mArgs_cons, mOwns_nil, mOwns_cons, mList_ap, mTup_ap, mCallB_ap, finL1, finL2, finL3, finL4, finL5, finT2, finT3, vwK_some, vws_nil, vws_cons, opsK_some, finB_ap, len_scr, len_lst, len_tup, abs_i, min_ii, max_ii, int_b, int_i, seqK_nx, seqK_rt, seqK_ex, seqK_bk, seqK_ct, seqK_if, sSeq_ap, sNil_ap, sPass_ap, sBreak_ap, sCont_ap, sRet_ap, sRetN_ap, sIf_ap, sExpr_ap, nxK_some, sAsg_ap, gNm_ap, own_false, own_val, own_cell, own_fr, sPar2_ap, sPar3_ap, par2K_ap, par3K_ap, gVals_nil, gVK_some, gVals_cons, gTu_tup, gTu_lst, gTu_fr, finF_nx, finF_ex, finF_rt, finR_val, finR_fr, finF_if, mCallF_ap, mMake_ap, mMeth_ap, clsOf_obj, mAttr_ap, finA_obj, ite_true', ite_false', ite_T, ite_F, sFor_ap, iVal_ap, finI_lst, finI_fr, finI_tup, decide_eq_true_eq, Bool.not_eq_true', decide_eq_false_iff_not, Nat.reduceAdd, mLm_ap, lmK_cell, isLst_lst, finLm0, finLm1, finLm2, lm3K_lst, lm4K_some, get_end, set_end, is_non, isnot_non, isNon_non, isNon_int, isNon_tup, isNon_obj, eq_bb, Bool.not_true, Bool.not_false, is_whole_int, hb0, cc, hn, Bool.not_true, hb]
abbrev Ob (t u : Int) : D := .obj 0 [.int t, .int u]
theorem fld_top {μ : Sto} {t u : Int} : fldK μ [.int t, .int u] (fldIx tFls 0 "top") = some (.ok (.val (.int t)), μ) := rfl
theorem fld_bottom {μ : Sto} {t u : Int} : fldK μ [.int t, .int u] (fldIx tFls 0 "bottom") = some (.ok (.val (.int u)), μ) := rfl
/-- (t, u) is the fraction a / b in lowest terms -/
structure IsM (n : Nat) (t u a b : Int) : Prop where
  pos : 0 < u
  eq : t * b = a * u
  b1 : Bd n t
  b2 : Bd n u
  low : Nat.gcd t.natAbs u.natAbs = 1
theorem make_ex {n : Nat} {a b : Int} (hb : b ≠ 0) (h1 : Bd n a) (h2 : Bd n b) (hn9 : n ≤ 9000 := by decide) : ∃ t u : Int, (∀ μ : Sto, callM mk_Measure 2 [] [.val (.int a), .val (.int b)] [] μ = some (.ok (.val (Ob t u)), μ)) ∧ IsM n t u a b := by
  obtain ⟨t, u, e, h1, h2, h3, h4, h5⟩ := measure_make hb h1 h2 hn9
  exact ⟨t, u, e, h1, h2, h3, h4, h5⟩
section
variable {n : Nat} {t u x y a b c d : Int}
theorem scale1 (e1 : t * b = a * u) (e2 : x * d = c * y) : (t * y) * (b * d) = (a * d) * (u * y) ∧ (x * u) * (b * d) = (c * b) * (u * y) := by
  constructor
  · have : t * y * (b * d) = (t * b) * (y * d) := by ac_rfl
    rw [this, e1]
    ac_rfl
  · have : x * u * (b * d) = (x * d) * (u * b) := by ac_rfl
    rw [this, e2]
    ac_rfl
theorem lt_iff (h1 : IsM n t u a b) (h2 : IsM n x y c d) (hb : 0 < b) (hd : 0 < d) : (t * y < x * u) ↔ (a * d < c * b) := by
  obtain ⟨k1, k2⟩ := scale1 h1.eq h2.eq
  have p1 : 0 < b * d := Int.mul_pos hb hd
  have p2 : 0 < u * y := Int.mul_pos h1.pos h2.pos
  constructor
  · intro h
    have h3 := Int.mul_lt_mul_of_pos_right h p1
    rw [k1, k2] at h3
    exact Int.lt_of_mul_lt_mul_right h3 (Int.le_of_lt p2)
  · intro h
    have h3 := Int.mul_lt_mul_of_pos_right h p2
    rw [← k1, ← k2] at h3
    exact Int.lt_of_mul_lt_mul_right h3 (Int.le_of_lt p1)
theorem eq_iff (h1 : IsM n t u a b) (h2 : IsM n x y c d) (hb : 0 < b) (hd : 0 < d) : (t * y = x * u) ↔ (a * d = c * b) := by
  obtain ⟨k1, k2⟩ := scale1 h1.eq h2.eq
  have p1 : b * d ≠ 0 := Int.mul_ne_zero (by omega) (by omega)
  have p2 : u * y ≠ 0 := Int.mul_ne_zero (by have := h1.pos; omega) (by have := h2.pos; omega)
  constructor
  · intro h
    rw [h, k2] at k1
    exact (Int.eq_of_mul_eq_mul_right p2 k1).symm
  · intro h
    rw [h, ← k2] at k1
    exact Int.eq_of_mul_eq_mul_right p1 k1
theorem low_iff (h1 : IsM n t u a b) (h2 : IsM n x y c d) : (t = x ∧ u = y) ↔ (t * y = x * u) := by
  constructor
  · rintro ⟨rfl, rfl⟩; rfl
  · intro h
    have hn : t.natAbs * y.natAbs = x.natAbs * u.natAbs := by rw [← Int.natAbs_mul, ← Int.natAbs_mul, h]
    have d1 : u.natAbs ∣ y.natAbs := by
      have c1 : Nat.Coprime u.natAbs t.natAbs := (Nat.gcd_comm _ _).trans h1.low
      exact c1.dvd_of_dvd_mul_left ⟨x.natAbs, by rw [hn, Nat.mul_comm]⟩
    have d2 : y.natAbs ∣ u.natAbs := by
      have c1 : Nat.Coprime y.natAbs x.natAbs := (Nat.gcd_comm _ _).trans h2.low
      exact c1.dvd_of_dvd_mul_left ⟨t.natAbs, by rw [← hn, Nat.mul_comm]⟩
    have e := Nat.dvd_antisymm d1 d2
    have hu := h1.pos
    have hy := h2.pos
    have e2 : u = y := by omega
    refine ⟨?_, e2⟩
    rw [e2] at h
    exact Int.eq_of_mul_eq_mul_right (by omega) h
theorem below_sem {k : Bool} {μ : Sto} (h1 : IsM n t u a b) (h2 : IsM n x y c d) (hb : 0 < b) (hd : 0 < d) (hn : n ≤ 9000) :
    fi_Measure_is_below.sem [.val (Ob t u), .val (Ob x y), .val (.bl k)] μ = some (.ok (.val (.bl (decide (a * d < c * b) || (k && decide (a * d = c * b))))), μ) := by
  rw [show fi_Measure_is_below.sem [.val (Ob t u), .val (Ob x y), .val (.bl k)] μ = finF μ.length (c_Measure_is_below [some (.val (Ob t u)), some (.val (Ob x y)), some (.val (.bl k)), none, none] μ) from rfl]
  unfold c_Measure_is_below
  have m1 := mul_bd n n h1.b1 h2.b2 (by omega)
  have m2 := mul_bd n n h2.b1 h1.b2 (by omega)
  rw [← decide_eq_decide.mpr (lt_iff h1 h2 hb hd), ← decide_eq_decide.mpr (eq_iff h1 h2 hb hd)]
  simp only [mVar_ap, slotM_some, List.getElem?_cons_zero, List.getElem?_cons_succ, List.set_cons_zero, List.set_cons_succ, mK_ap, andThen_ok, andThen_if, exThen_ok, exThen_if, vw_val, vw_fr, vw_cell, cellV_lst, cellV_frz, rt_val, rt_fr, rt_cell, fin2_ap, fin2K_some, opK_some, fin1_ap, op1K_some, mOp2_ap, mOp1_ap, add_ii, sub_ii, neg_i, not_b, lt_ii, le_ii, gt_ii, ge_ii, eq_ii, ne_ii, ix_lst, Sz.ix_tup, ix_scr, omap_some, atI0, atI1, atI2, bl?_bl, tBl_ap, tBlK_some, tNotM_ap, tAndM_ap, tOrM_ap, tTrue_ap, mIf_ap, mAnd_ap, mOr_ap, andK_some, orK_some, mArgs_nil, mArgs_cons, mOwns_nil, mOwns_cons, mList_ap, mTup_ap, mCallB_ap, finL1, finL2, finL3, finL4, finL5, finT2, finT3, vwK_some, vws_nil, vws_cons, opsK_some, finB_ap, len_scr, len_lst, len_tup, abs_i, min_ii, max_ii, int_b, int_i, seqK_nx, seqK_rt, seqK_ex, seqK_bk, seqK_ct, seqK_if, sSeq_ap, sNil_ap, sPass_ap, sBreak_ap, sCont_ap, sRet_ap, sRetN_ap, sIf_ap, sExpr_ap, nxK_some, sAsg_ap, gNm_ap, own_false, own_val, own_cell, own_fr, sPar2_ap, sPar3_ap, par2K_ap, par3K_ap, gVals_nil, gVK_some, gVals_cons, gTu_tup, gTu_lst, gTu_fr, finF_nx, finF_ex, finF_rt, finR_val, finR_fr, finF_if, mCallF_ap, mMake_ap, mMeth_ap, clsOf_obj, mAttr_ap, finA_obj, ite_true', ite_false', ite_T, ite_F, sFor_ap, iVal_ap, finI_lst, finI_fr, finI_tup, decide_eq_true_eq, Bool.not_eq_true', decide_eq_false_iff_not, Nat.reduceAdd, mLm_ap, lmK_cell, isLst_lst, finLm0, finLm1, finLm2, lm3K_lst, lm4K_some, get_end, set_end, is_non, isnot_non, isNon_non, isNon_int, isNon_tup, isNon_obj, eq_bb, Bool.not_true, Bool.not_false, fld_top, fld_bottom, m1, m2]
  by_cases hl : t * y < x * u
  · rw [if_pos hl]
    try simp only [mVar_ap, slotM_some, List.getElem?_cons_zero, List.getElem?_cons_succ, List.set_cons_zero, List.set_cons_succ, mK_ap, andThen_ok, andThen_if, exThen_ok, exThen_if, vw_val, vw_fr, vw_cell, cellV_lst, cellV_frz, rt_val, rt_fr, rt_cell, fin2_ap, fin2K_some, opK_some, fin1_ap, op1K_some, mOp2_ap, mOp1_ap, add_ii, sub_ii, neg_i, not_b, lt_ii, le_ii, gt_ii, ge_ii, eq_ii, ne_ii, ix_lst, Sz.ix_tup, ix_scr, omap_some, atI0, atI1, atI2, bl?_bl, tBl_ap, tBlK_some, tNotM_ap, tAndM_ap, tOrM_ap, tTrue_ap, mIf_ap, mAnd_ap, mOr_ap, andK_some, orK_some, mArgs_nil, mArgs_cons, mOwns_nil, mOwns_cons, mList_ap, mTup_ap, mCallB_ap, finL1, finL2, finL3, finL4, finL5, finT2, finT3, vwK_some, vws_nil, vws_cons, opsK_some, finB_ap, len_scr, len_lst, len_tup, abs_i, min_ii, max_ii, int_b, int_i, seqK_nx, seqK_rt, seqK_ex, seqK_bk, seqK_ct, seqK_if, sSeq_ap, sNil_ap, sPass_ap, sBreak_ap, sCont_ap, sRet_ap, sRetN_ap, sIf_ap, sExpr_ap, nxK_some, sAsg_ap, gNm_ap, own_false, own_val, own_cell, own_fr, sPar2_ap, sPar3_ap, par2K_ap, par3K_ap, gVals_nil, gVK_some, gVals_cons, gTu_tup, gTu_lst, gTu_fr, finF_nx, finF_ex, finF_rt, finR_val, finR_fr, finF_if, mCallF_ap, mMake_ap, mMeth_ap, clsOf_obj, mAttr_ap, finA_obj, ite_true', ite_false', ite_T, ite_F, sFor_ap, iVal_ap, finI_lst, finI_fr, finI_tup, decide_eq_true_eq, Bool.not_eq_true', decide_eq_false_iff_not, Nat.reduceAdd, mLm_ap, lmK_cell, isLst_lst, finLm0, finLm1, finLm2, lm3K_lst, lm4K_some, get_end, set_end, is_non, isnot_non, isNon_non, isNon_int, isNon_tup, isNon_obj, eq_bb, Bool.not_true, Bool.not_false]
    rw [List.take_length, decide_eq_true hl]
    rfl
  · rw [if_neg hl]
    cases k with
    | false =>
      simp only [mVar_ap, slotM_some, List.getElem?_cons_zero, List.getElem?_cons_succ, List.set_cons_zero, List.set_cons_succ, mK_ap, andThen_ok, andThen_if, exThen_ok, exThen_if, vw_val, vw_fr, vw_cell, cellV_lst, cellV_frz, rt_val, rt_fr, rt_cell, fin2_ap, fin2K_some, opK_some, fin1_ap, op1K_some, mOp2_ap, mOp1_ap, add_ii, sub_ii, neg_i, not_b, lt_ii, le_ii, gt_ii, ge_ii, eq_ii, ne_ii, ix_lst, Sz.ix_tup, ix_scr, omap_some, atI0, atI1, atI2, bl?_bl, tBl_ap, tBlK_some, tNotM_ap, tAndM_ap, tOrM_ap, tTrue_ap, mIf_ap, mAnd_ap, mOr_ap, andK_some, orK_some, mArgs_nil, mArgs_cons, mOwns_nil, mOwns_cons, mList_ap, mTup_ap, mCallB_ap, finL1, finL2, finL3, finL4, finL5, finT2, finT3, vwK_some, vws_nil, vws_cons, opsK_some, finB_ap, len_scr, len_lst, len_tup, abs_i, min_ii, max_ii, int_b, int_i, seqK_nx, seqK_rt, seqK_ex, seqK_bk, seqK_ct, seqK_if, sSeq_ap, sNil_ap, sPass_ap, sBreak_ap, sCont_ap, sRet_ap, sRetN_ap, sIf_ap, sExpr_ap, nxK_some, sAsg_ap, gNm_ap, own_false, own_val, own_cell, own_fr, sPar2_ap, sPar3_ap, par2K_ap, par3K_ap, gVals_nil, gVK_some, gVals_cons, gTu_tup, gTu_lst, gTu_fr, finF_nx, finF_ex, finF_rt, finR_val, finR_fr, finF_if, mCallF_ap, mMake_ap, mMeth_ap, clsOf_obj, mAttr_ap, finA_obj, ite_true', ite_false', ite_T, ite_F, sFor_ap, iVal_ap, finI_lst, finI_fr, finI_tup, decide_eq_true_eq, Bool.not_eq_true', decide_eq_false_iff_not, Nat.reduceAdd, mLm_ap, lmK_cell, isLst_lst, finLm0, finLm1, finLm2, lm3K_lst, lm4K_some, get_end, set_end, is_non, isnot_non, isNon_non, isNon_int, isNon_tup, isNon_obj, eq_bb, Bool.not_true, Bool.not_false]
      rw [List.take_length, decide_eq_false hl]
      rfl
    | true =>
      simp only [mVar_ap, slotM_some, List.getElem?_cons_zero, List.getElem?_cons_succ, List.set_cons_zero, List.set_cons_succ, mK_ap, andThen_ok, andThen_if, exThen_ok, exThen_if, vw_val, vw_fr, vw_cell, cellV_lst, cellV_frz, rt_val, rt_fr, rt_cell, fin2_ap, fin2K_some, opK_some, fin1_ap, op1K_some, mOp2_ap, mOp1_ap, add_ii, sub_ii, neg_i, not_b, lt_ii, le_ii, gt_ii, ge_ii, eq_ii, ne_ii, ix_lst, Sz.ix_tup, ix_scr, omap_some, atI0, atI1, atI2, bl?_bl, tBl_ap, tBlK_some, tNotM_ap, tAndM_ap, tOrM_ap, tTrue_ap, mIf_ap, mAnd_ap, mOr_ap, andK_some, orK_some, mArgs_nil, mArgs_cons, mOwns_nil, mOwns_cons, mList_ap, mTup_ap, mCallB_ap, finL1, finL2, finL3, finL4, finL5, finT2, finT3, vwK_some, vws_nil, vws_cons, opsK_some, finB_ap, len_scr, len_lst, len_tup, abs_i, min_ii, max_ii, int_b, int_i, seqK_nx, seqK_rt, seqK_ex, seqK_bk, seqK_ct, seqK_if, sSeq_ap, sNil_ap, sPass_ap, sBreak_ap, sCont_ap, sRet_ap, sRetN_ap, sIf_ap, sExpr_ap, nxK_some, sAsg_ap, gNm_ap, own_false, own_val, own_cell, own_fr, sPar2_ap, sPar3_ap, par2K_ap, par3K_ap, gVals_nil, gVK_some, gVals_cons, gTu_tup, gTu_lst, gTu_fr, finF_nx, finF_ex, finF_rt, finR_val, finR_fr, finF_if, mCallF_ap, mMake_ap, mMeth_ap, clsOf_obj, mAttr_ap, finA_obj, ite_true', ite_false', ite_T, ite_F, sFor_ap, iVal_ap, finI_lst, finI_fr, finI_tup, decide_eq_true_eq, Bool.not_eq_true', decide_eq_false_iff_not, Nat.reduceAdd, mLm_ap, lmK_cell, isLst_lst, finLm0, finLm1, finLm2, lm3K_lst, lm4K_some, get_end, set_end, is_non, isnot_non, isNon_non, isNon_int, isNon_tup, isNon_obj, eq_bb, Bool.not_true, Bool.not_false]
      rw [List.take_length, decide_eq_false hl]
      rfl
theorem isi_ob {t u : Int} : bIsi nKit nKit subK [Ob t u, .cls 0] = some (.val (.bl true)) := rfl
theorem own_eq (h1 : IsM n t u a b) (h2 : IsM n x y c d) (hb : 0 < b) (hd : 0 < d) : dEqO eqm_Measure (Ob t u) (Ob x y) = some (.val (.bl (decide (a * d = c * b)))) := by
  show eqSem fi_Measure___eq__ (Ob t u) (Ob x y) = _
  refine eqSem_eq fun μ => ?_
  rw [show fi_Measure___eq__.sem [.val (Ob t u), .val (Ob x y)] μ = finF μ.length (c_Measure___eq__ [some (.val (Ob t u)), some (.val (Ob x y))] μ) from rfl]
  unfold c_Measure___eq__
  simp only [mVar_ap, slotM_some, List.getElem?_cons_zero, List.getElem?_cons_succ, List.set_cons_zero, List.set_cons_succ, mK_ap, andThen_ok, andThen_if, exThen_ok, exThen_if, vw_val, vw_fr, vw_cell, cellV_lst, cellV_frz, rt_val, rt_fr, rt_cell, fin2_ap, fin2K_some, opK_some, fin1_ap, op1K_some, mOp2_ap, mOp1_ap, add_ii, sub_ii, neg_i, not_b, lt_ii, le_ii, gt_ii, ge_ii, eq_ii, ne_ii, ix_lst, Sz.ix_tup, ix_scr, omap_some, atI0, atI1, atI2, bl?_bl, tBl_ap, tBlK_some, tNotM_ap, tAndM_ap, tOrM_ap, tTrue_ap, mIf_ap, mAnd_ap, mOr_ap, andK_some, orK_some, mArgs_nil, mArgs_cons, mOwns_nil, mOwns_cons, mList_ap, mTup_ap, mCallB_ap, finL1, finL2, finL3, finL4, finL5, finT2, finT3, vwK_some, vws_nil, vws_cons, opsK_some, finB_ap, len_scr, len_lst, len_tup, abs_i, min_ii, max_ii, int_b, int_i, seqK_nx, seqK_rt, seqK_ex, seqK_bk, seqK_ct, seqK_if, sSeq_ap, sNil_ap, sPass_ap, sBreak_ap, sCont_ap, sRet_ap, sRetN_ap, sIf_ap, sExpr_ap, nxK_some, sAsg_ap, gNm_ap, own_false, own_val, own_cell, own_fr, sPar2_ap, sPar3_ap, par2K_ap, par3K_ap, gVals_nil, gVK_some, gVals_cons, gTu_tup, gTu_lst, gTu_fr, finF_nx, finF_ex, finF_rt, finR_val, finR_fr, finF_if, mCallF_ap, mMake_ap, mMeth_ap, clsOf_obj, mAttr_ap, finA_obj, ite_true', ite_false', ite_T, ite_F, sFor_ap, iVal_ap, finI_lst, finI_fr, finI_tup, decide_eq_true_eq, Bool.not_eq_true', decide_eq_false_iff_not, Nat.reduceAdd, mLm_ap, lmK_cell, isLst_lst, finLm0, finLm1, finLm2, lm3K_lst, lm4K_some, get_end, set_end, is_non, isnot_non, isNon_non, isNon_int, isNon_tup, isNon_obj, eq_bb, Bool.not_true, Bool.not_false, isi_ob, fld_top, fld_bottom]
  have e : decide (a * d = c * b) = (decide (t = x) && decide (u = y)) := by
    have hh : (a * d = c * b) ↔ (t = x ∧ u = y) := (eq_iff h1 h2 hb hd).symm.trans (low_iff h1 h2).symm
    by_cases q1 : t = x <;> by_cases q2 : u = y <;> simp [hh, q1, q2]
  rw [e]
  by_cases q1 : t = x
  · rw [if_pos q1, decide_eq_true q1]
    try simp only [mVar_ap, slotM_some, List.getElem?_cons_zero, List.getElem?_cons_succ, List.set_cons_zero, List.set_cons_succ, mK_ap, andThen_ok, andThen_if, exThen_ok, exThen_if, vw_val, vw_fr, vw_cell, cellV_lst, cellV_frz, rt_val, rt_fr, rt_cell, fin2_ap, fin2K_some, opK_some, fin1_ap, op1K_some, mOp2_ap, mOp1_ap, add_ii, sub_ii, neg_i, not_b, lt_ii, le_ii, gt_ii, ge_ii, eq_ii, ne_ii, ix_lst, Sz.ix_tup, ix_scr, omap_some, atI0, atI1, atI2, bl?_bl, tBl_ap, tBlK_some, tNotM_ap, tAndM_ap, tOrM_ap, tTrue_ap, mIf_ap, mAnd_ap, mOr_ap, andK_some, orK_some, mArgs_nil, mArgs_cons, mOwns_nil, mOwns_cons, mList_ap, mTup_ap, mCallB_ap, finL1, finL2, finL3, finL4, finL5, finT2, finT3, vwK_some, vws_nil, vws_cons, opsK_some, finB_ap, len_scr, len_lst, len_tup, abs_i, min_ii, max_ii, int_b, int_i, seqK_nx, seqK_rt, seqK_ex, seqK_bk, seqK_ct, seqK_if, sSeq_ap, sNil_ap, sPass_ap, sBreak_ap, sCont_ap, sRet_ap, sRetN_ap, sIf_ap, sExpr_ap, nxK_some, sAsg_ap, gNm_ap, own_false, own_val, own_cell, own_fr, sPar2_ap, sPar3_ap, par2K_ap, par3K_ap, gVals_nil, gVK_some, gVals_cons, gTu_tup, gTu_lst, gTu_fr, finF_nx, finF_ex, finF_rt, finR_val, finR_fr, finF_if, mCallF_ap, mMake_ap, mMeth_ap, clsOf_obj, mAttr_ap, finA_obj, ite_true', ite_false', ite_T, ite_F, sFor_ap, iVal_ap, finI_lst, finI_fr, finI_tup, decide_eq_true_eq, Bool.not_eq_true', decide_eq_false_iff_not, Nat.reduceAdd, mLm_ap, lmK_cell, isLst_lst, finLm0, finLm1, finLm2, lm3K_lst, lm4K_some, get_end, set_end, is_non, isnot_non, isNon_non, isNon_int, isNon_tup, isNon_obj, eq_bb, Bool.not_true, Bool.not_false]
    rw [List.take_length]
    rfl
  · rw [if_neg q1, decide_eq_false q1]
    try simp only [mVar_ap, slotM_some, List.getElem?_cons_zero, List.getElem?_cons_succ, List.set_cons_zero, List.set_cons_succ, mK_ap, andThen_ok, andThen_if, exThen_ok, exThen_if, vw_val, vw_fr, vw_cell, cellV_lst, cellV_frz, rt_val, rt_fr, rt_cell, fin2_ap, fin2K_some, opK_some, fin1_ap, op1K_some, mOp2_ap, mOp1_ap, add_ii, sub_ii, neg_i, not_b, lt_ii, le_ii, gt_ii, ge_ii, eq_ii, ne_ii, ix_lst, Sz.ix_tup, ix_scr, omap_some, atI0, atI1, atI2, bl?_bl, tBl_ap, tBlK_some, tNotM_ap, tAndM_ap, tOrM_ap, tTrue_ap, mIf_ap, mAnd_ap, mOr_ap, andK_some, orK_some, mArgs_nil, mArgs_cons, mOwns_nil, mOwns_cons, mList_ap, mTup_ap, mCallB_ap, finL1, finL2, finL3, finL4, finL5, finT2, finT3, vwK_some, vws_nil, vws_cons, opsK_some, finB_ap, len_scr, len_lst, len_tup, abs_i, min_ii, max_ii, int_b, int_i, seqK_nx, seqK_rt, seqK_ex, seqK_bk, seqK_ct, seqK_if, sSeq_ap, sNil_ap, sPass_ap, sBreak_ap, sCont_ap, sRet_ap, sRetN_ap, sIf_ap, sExpr_ap, nxK_some, sAsg_ap, gNm_ap, own_false, own_val, own_cell, own_fr, sPar2_ap, sPar3_ap, par2K_ap, par3K_ap, gVals_nil, gVK_some, gVals_cons, gTu_tup, gTu_lst, gTu_fr, finF_nx, finF_ex, finF_rt, finR_val, finR_fr, finF_if, mCallF_ap, mMake_ap, mMeth_ap, clsOf_obj, mAttr_ap, finA_obj, ite_true', ite_false', ite_T, ite_F, sFor_ap, iVal_ap, finI_lst, finI_fr, finI_tup, decide_eq_true_eq, Bool.not_eq_true', decide_eq_false_iff_not, Nat.reduceAdd, mLm_ap, lmK_cell, isLst_lst, finLm0, finLm1, finLm2, lm3K_lst, lm4K_some, get_end, set_end, is_non, isnot_non, isNon_non, isNon_int, isNon_tup, isNon_obj, eq_bb, Bool.not_true, Bool.not_false]
    rw [List.take_length]
    rfl
end
/-- an end as the program has it -/
def ObE (n : Nat) : Option (Int × Int) → D → Prop
  | none, d => d = .non
  | some x, d => ∃ t u, d = Ob t u ∧ IsM n t u x.1 x.2 ∧ 0 < x.2
section
variable {p q : D} {k : Bool} {μ : Sto}
theorem ib_2 : callF fi_Measure_is_below 2 [] [.val p, .val q] [] μ = fi_Measure_is_below.sem [.val p, .val q, .val (.bl false)] μ := callF_eq rfl rfl rfl
theorem ib_3 : callF fi_Measure_is_below 3 [] [.val p, .val q, .val (.bl k)] [] μ = fi_Measure_is_below.sem [.val p, .val q, .val (.bl k)] μ := callF_eq rfl rfl rfl
end
theorem mt0 : mt_is_below 0 = some fi_Measure_is_below := rfl
theorem isi_non_c : bIsi nKit nKit subK [.non, .cls 0] = some (.val (.bl false)) := rfl
theorem is_end_call {n : Nat} {a : Option (Int × Int)} {d : D} {μ : Sto} (h : ObE n a d) : callF fi_is_end 1 [] [.val d] [] μ = some (.ok (.val (.bl true)), μ) := by
  rw [show callF fi_is_end 1 [] [.val d] [] μ = fi_is_end.sem [.val d] μ from callF_eq rfl rfl rfl]
  rw [show fi_is_end.sem [.val d] μ = finF μ.length (c_is_end [some (.val d)] μ) from rfl]
  unfold c_is_end
  cases a with
  | none =>
    cases h
    simp only [mVar_ap, slotM_some, List.getElem?_cons_zero, List.getElem?_cons_succ, List.set_cons_zero, List.set_cons_succ, mK_ap, andThen_ok, andThen_if, exThen_ok, exThen_if, vw_val, vw_fr, vw_cell, cellV_lst, cellV_frz, rt_val, rt_fr, rt_cell, fin2_ap, fin2K_some, opK_some, fin1_ap, op1K_some, mOp2_ap, mOp1_ap, add_ii, sub_ii, neg_i, not_b, lt_ii, le_ii, gt_ii, ge_ii, eq_ii, ne_ii, ix_lst, Sz.ix_tup, ix_scr, omap_some, atI0, atI1, atI2, bl?_bl, tBl_ap, tBlK_some, tNotM_ap, tAndM_ap, tOrM_ap, tTrue_ap, mIf_ap, mAnd_ap, mOr_ap, andK_some, orK_some, mArgs_nil, mArgs_cons, mOwns_nil, mOwns_cons, mList_ap, mTup_ap, mCallB_ap, finL1, finL2, finL3, finL4, finL5, finT2, finT3, vwK_some, vws_nil, vws_cons, opsK_some, finB_ap, len_scr, len_lst, len_tup, abs_i, min_ii, max_ii, int_b, int_i, seqK_nx, seqK_rt, seqK_ex, seqK_bk, seqK_ct, seqK_if, sSeq_ap, sNil_ap, sPass_ap, sBreak_ap, sCont_ap, sRet_ap, sRetN_ap, sIf_ap, sExpr_ap, nxK_some, sAsg_ap, gNm_ap, own_false, own_val, own_cell, own_fr, sPar2_ap, sPar3_ap, par2K_ap, par3K_ap, gVals_nil, gVK_some, gVals_cons, gTu_tup, gTu_lst, gTu_fr, finF_nx, finF_ex, finF_rt, finR_val, finR_fr, finF_if, mCallF_ap, mMake_ap, mMeth_ap, clsOf_obj, mAttr_ap, finA_obj, ite_true', ite_false', ite_T, ite_F, sFor_ap, iVal_ap, finI_lst, finI_fr, finI_tup, decide_eq_true_eq, Bool.not_eq_true', decide_eq_false_iff_not, Nat.reduceAdd, mLm_ap, lmK_cell, isLst_lst, finLm0, finLm1, finLm2, lm3K_lst, lm4K_some, get_end, set_end, is_non, isnot_non, isNon_non, isNon_int, isNon_tup, isNon_obj, eq_bb, Bool.not_true, Bool.not_false]
    rw [List.take_length]
  | some x =>
    obtain ⟨t, u, rfl, _⟩ := h
    simp only [mVar_ap, slotM_some, List.getElem?_cons_zero, List.getElem?_cons_succ, List.set_cons_zero, List.set_cons_succ, mK_ap, andThen_ok, andThen_if, exThen_ok, exThen_if, vw_val, vw_fr, vw_cell, cellV_lst, cellV_frz, rt_val, rt_fr, rt_cell, fin2_ap, fin2K_some, opK_some, fin1_ap, op1K_some, mOp2_ap, mOp1_ap, add_ii, sub_ii, neg_i, not_b, lt_ii, le_ii, gt_ii, ge_ii, eq_ii, ne_ii, ix_lst, Sz.ix_tup, ix_scr, omap_some, atI0, atI1, atI2, bl?_bl, tBl_ap, tBlK_some, tNotM_ap, tAndM_ap, tOrM_ap, tTrue_ap, mIf_ap, mAnd_ap, mOr_ap, andK_some, orK_some, mArgs_nil, mArgs_cons, mOwns_nil, mOwns_cons, mList_ap, mTup_ap, mCallB_ap, finL1, finL2, finL3, finL4, finL5, finT2, finT3, vwK_some, vws_nil, vws_cons, opsK_some, finB_ap, len_scr, len_lst, len_tup, abs_i, min_ii, max_ii, int_b, int_i, seqK_nx, seqK_rt, seqK_ex, seqK_bk, seqK_ct, seqK_if, sSeq_ap, sNil_ap, sPass_ap, sBreak_ap, sCont_ap, sRet_ap, sRetN_ap, sIf_ap, sExpr_ap, nxK_some, sAsg_ap, gNm_ap, own_false, own_val, own_cell, own_fr, sPar2_ap, sPar3_ap, par2K_ap, par3K_ap, gVals_nil, gVK_some, gVals_cons, gTu_tup, gTu_lst, gTu_fr, finF_nx, finF_ex, finF_rt, finR_val, finR_fr, finF_if, mCallF_ap, mMake_ap, mMeth_ap, clsOf_obj, mAttr_ap, finA_obj, ite_true', ite_false', ite_T, ite_F, sFor_ap, iVal_ap, finI_lst, finI_fr, finI_tup, decide_eq_true_eq, Bool.not_eq_true', decide_eq_false_iff_not, Nat.reduceAdd, mLm_ap, lmK_cell, isLst_lst, finLm0, finLm1, finLm2, lm3K_lst, lm4K_some, get_end, set_end, is_non, isnot_non, isNon_non, isNon_int, isNon_tup, isNon_obj, eq_bb, Bool.not_true, Bool.not_false, isi_ob]
    rw [List.take_length]
theorem is_some_call {n : Nat} {a b : Option (Int × Int)} {da db : D} {ia ib : Bool} {μ : Sto} (ha : ObE n a da) (hb : ObE n b db) (hn : n ≤ 9000) : callF fi_is_some 4 [] [.val da, .val db, .val (.bl ia), .val (.bl ib)] [] μ = some (.ok (.val (.bl (someB a b ia ib))), μ) := by
  rw [show callF fi_is_some 4 [] [.val da, .val db, .val (.bl ia), .val (.bl ib)] [] μ = fi_is_some.sem [.val da, .val db, .val (.bl ia), .val (.bl ib)] μ from callF_eq rfl rfl rfl]
  rw [show fi_is_some.sem [.val da, .val db, .val (.bl ia), .val (.bl ib)] μ = finF μ.length (c_is_some [some (.val da), some (.val db), some (.val (.bl ia)), some (.val (.bl ib))] μ) from rfl]
  unfold c_is_some
  cases a with
  | none =>
    cases ha
    simp only [mVar_ap, slotM_some, List.getElem?_cons_zero, List.getElem?_cons_succ, List.set_cons_zero, List.set_cons_succ, mK_ap, andThen_ok, andThen_if, exThen_ok, exThen_if, vw_val, vw_fr, vw_cell, cellV_lst, cellV_frz, rt_val, rt_fr, rt_cell, fin2_ap, fin2K_some, opK_some, fin1_ap, op1K_some, mOp2_ap, mOp1_ap, add_ii, sub_ii, neg_i, not_b, lt_ii, le_ii, gt_ii, ge_ii, eq_ii, ne_ii, ix_lst, Sz.ix_tup, ix_scr, omap_some, atI0, atI1, atI2, bl?_bl, tBl_ap, tBlK_some, tNotM_ap, tAndM_ap, tOrM_ap, tTrue_ap, mIf_ap, mAnd_ap, mOr_ap, andK_some, orK_some, mArgs_nil, mArgs_cons, mOwns_nil, mOwns_cons, mList_ap, mTup_ap, mCallB_ap, finL1, finL2, finL3, finL4, finL5, finT2, finT3, vwK_some, vws_nil, vws_cons, opsK_some, finB_ap, len_scr, len_lst, len_tup, abs_i, min_ii, max_ii, int_b, int_i, seqK_nx, seqK_rt, seqK_ex, seqK_bk, seqK_ct, seqK_if, sSeq_ap, sNil_ap, sPass_ap, sBreak_ap, sCont_ap, sRet_ap, sRetN_ap, sIf_ap, sExpr_ap, nxK_some, sAsg_ap, gNm_ap, own_false, own_val, own_cell, own_fr, sPar2_ap, sPar3_ap, par2K_ap, par3K_ap, gVals_nil, gVK_some, gVals_cons, gTu_tup, gTu_lst, gTu_fr, finF_nx, finF_ex, finF_rt, finR_val, finR_fr, finF_if, mCallF_ap, mMake_ap, mMeth_ap, clsOf_obj, mAttr_ap, finA_obj, ite_true', ite_false', ite_T, ite_F, sFor_ap, iVal_ap, finI_lst, finI_fr, finI_tup, decide_eq_true_eq, Bool.not_eq_true', decide_eq_false_iff_not, Nat.reduceAdd, mLm_ap, lmK_cell, isLst_lst, finLm0, finLm1, finLm2, lm3K_lst, lm4K_some, get_end, set_end, is_non, isnot_non, isNon_non, isNon_int, isNon_tup, isNon_obj, eq_bb, Bool.not_true, Bool.not_false]
    rw [List.take_length]
    rfl
  | some x =>
    obtain ⟨t, u, rfl, i1, p1⟩ := ha
    cases b with
    | none =>
      cases hb
      simp only [mVar_ap, slotM_some, List.getElem?_cons_zero, List.getElem?_cons_succ, List.set_cons_zero, List.set_cons_succ, mK_ap, andThen_ok, andThen_if, exThen_ok, exThen_if, vw_val, vw_fr, vw_cell, cellV_lst, cellV_frz, rt_val, rt_fr, rt_cell, fin2_ap, fin2K_some, opK_some, fin1_ap, op1K_some, mOp2_ap, mOp1_ap, add_ii, sub_ii, neg_i, not_b, lt_ii, le_ii, gt_ii, ge_ii, eq_ii, ne_ii, ix_lst, Sz.ix_tup, ix_scr, omap_some, atI0, atI1, atI2, bl?_bl, tBl_ap, tBlK_some, tNotM_ap, tAndM_ap, tOrM_ap, tTrue_ap, mIf_ap, mAnd_ap, mOr_ap, andK_some, orK_some, mArgs_nil, mArgs_cons, mOwns_nil, mOwns_cons, mList_ap, mTup_ap, mCallB_ap, finL1, finL2, finL3, finL4, finL5, finT2, finT3, vwK_some, vws_nil, vws_cons, opsK_some, finB_ap, len_scr, len_lst, len_tup, abs_i, min_ii, max_ii, int_b, int_i, seqK_nx, seqK_rt, seqK_ex, seqK_bk, seqK_ct, seqK_if, sSeq_ap, sNil_ap, sPass_ap, sBreak_ap, sCont_ap, sRet_ap, sRetN_ap, sIf_ap, sExpr_ap, nxK_some, sAsg_ap, gNm_ap, own_false, own_val, own_cell, own_fr, sPar2_ap, sPar3_ap, par2K_ap, par3K_ap, gVals_nil, gVK_some, gVals_cons, gTu_tup, gTu_lst, gTu_fr, finF_nx, finF_ex, finF_rt, finR_val, finR_fr, finF_if, mCallF_ap, mMake_ap, mMeth_ap, clsOf_obj, mAttr_ap, finA_obj, ite_true', ite_false', ite_T, ite_F, sFor_ap, iVal_ap, finI_lst, finI_fr, finI_tup, decide_eq_true_eq, Bool.not_eq_true', decide_eq_false_iff_not, Nat.reduceAdd, mLm_ap, lmK_cell, isLst_lst, finLm0, finLm1, finLm2, lm3K_lst, lm4K_some, get_end, set_end, is_non, isnot_non, isNon_non, isNon_int, isNon_tup, isNon_obj, eq_bb, Bool.not_true, Bool.not_false]
      rw [List.take_length]
      rfl
    | some y =>
      obtain ⟨t', u', rfl, i2, p2⟩ := hb
      have k1 := fun ν : Sto => below_sem (k := false) (μ := ν) i1 i2 p1 p2 hn
      have k2 := own_eq i1 i2 p1 p2
      generalize hlt : decide (x.1 * y.2 < y.1 * x.2) = lt at k1
      generalize hsm : decide (x.1 * y.2 = y.1 * x.2) = sm at k1 k2
      have hB : someB (some x) (some y) ia ib = (lt || (sm && (ia && ib))) := by
        show (decide (x.1 * y.2 < y.1 * x.2) || (decide (x.1 * y.2 = y.1 * x.2) && (ia && ib))) = _
        rw [hlt, hsm]
      rw [hB]
      cases lt <;> cases sm <;> cases ia <;> (simp only [mVar_ap, slotM_some, List.getElem?_cons_zero, List.getElem?_cons_succ, List.set_cons_zero, List.set_cons_succ, mK_ap, andThen_ok, andThen_if, exThen_ok, exThen_if, vw_val, vw_fr, vw_cell, cellV_lst, cellV_frz, rt_val, rt_fr, rt_cell, fin2_ap, fin2K_some, opK_some, fin1_ap, op1K_some, mOp2_ap, mOp1_ap, add_ii, sub_ii, neg_i, not_b, lt_ii, le_ii, gt_ii, ge_ii, eq_ii, ne_ii, ix_lst, Sz.ix_tup, ix_scr, omap_some, atI0, atI1, atI2, bl?_bl, tBl_ap, tBlK_some, tNotM_ap, tAndM_ap, tOrM_ap, tTrue_ap, mIf_ap, mAnd_ap, mOr_ap, andK_some, orK_some, mArgs_nil, mArgs_cons, mOwns_nil, mOwns_cons, mList_ap, mTup_ap, mCallB_ap, finL1, finL2, finL3, finL4, finL5, finT2, finT3, vwK_some, vws_nil, vws_cons, opsK_some, finB_ap, len_scr, len_lst, len_tup, abs_i, min_ii, max_ii, int_b, int_i, seqK_nx, seqK_rt, seqK_ex, seqK_bk, seqK_ct, seqK_if, sSeq_ap, sNil_ap, sPass_ap, sBreak_ap, sCont_ap, sRet_ap, sRetN_ap, sIf_ap, sExpr_ap, nxK_some, sAsg_ap, gNm_ap, own_false, own_val, own_cell, own_fr, sPar2_ap, sPar3_ap, par2K_ap, par3K_ap, gVals_nil, gVK_some, gVals_cons, gTu_tup, gTu_lst, gTu_fr, finF_nx, finF_ex, finF_rt, finR_val, finR_fr, finF_if, mCallF_ap, mMake_ap, mMeth_ap, clsOf_obj, mAttr_ap, finA_obj, ite_true', ite_false', ite_T, ite_F, sFor_ap, iVal_ap, finI_lst, finI_fr, finI_tup, decide_eq_true_eq, Bool.not_eq_true', decide_eq_false_iff_not, Nat.reduceAdd, mLm_ap, lmK_cell, isLst_lst, finLm0, finLm1, finLm2, lm3K_lst, lm4K_some, get_end, set_end, is_non, isnot_non, isNon_non, isNon_int, isNon_tup, isNon_obj, eq_bb, Bool.not_true, Bool.not_false, methK_some mt0, ib_2, k1, k2, Bool.false_or, Bool.true_or, Bool.or_false, Bool.and_false, Bool.false_and, Bool.true_and]; rw [List.take_length])
abbrev Str4 (da db : D) (ia ib : Bool) : D := .obj 1 [da, db, .bl ia, .bl ib]
theorem isNon_ObE {n : Nat} {a : Option (Int × Int)} {d : D} (h : ObE n a d) : (!Sz.isNon d) = a.isSome := by
  cases a with
  | none => cases h; rfl
  | some x => obtain ⟨t, u, rfl, _⟩ := h; rfl
theorem stretch_make {n : Nat} {a b : Option (Int × Int)} {da db : D} {ia ib : Bool} (ha : ObE n a da) (hb : ObE n b db) (hn : n ≤ 9000) (hs : someB a b ia ib = true) (μ : Sto) :
    callM mk_Stretch 4 [] [.val da, .val db, .val (.bl ia), .val (.bl ib)] [] μ = some (.ok (.val (Str4 da db (a.isSome && ia) (b.isSome && ib))), μ) := by
  rw [show callM mk_Stretch 4 [] [.val da, .val db, .val (.bl ia), .val (.bl ib)] [] μ = finM mk_Stretch μ.length (fi_Stretch___init__.sem [.cell μ.length, .val da, .val db, .val (.bl ia), .val (.bl ib)] (μ ++ [.ins 1 []])) from callM_eq rfl rfl rfl]
  rw [show fi_Stretch___init__.sem [.cell μ.length, .val da, .val db, .val (.bl ia), .val (.bl ib)] (μ ++ [.ins 1 []]) = finF (μ ++ [C.ins 1 []]).length (c_Stretch___init__ [some (.cell μ.length), some (.val da), some (.val db), some (.val (.bl ia)), some (.val (.bl ib))] (μ ++ [.ins 1 []])) from rfl]
  unfold c_Stretch___init__
  have k1 := fun ν : Sto => is_end_call (μ := ν) ha
  have k2 := fun ν : Sto => is_end_call (μ := ν) hb
  have k3 := fun ν : Sto => is_some_call (μ := ν) (ia := ia) (ib := ib) ha hb hn
  rw [hs] at k3
  have n1 := isNon_ObE ha
  have n2 := isNon_ObE hb
  have st : ∀ (ρ : En) (f : Str) (m : ME) (d : D) (fs : List (Str × D)) (rest : MS), m ρ (μ ++ [.ins 1 fs]) = some (.ok (.val d), μ ++ [.ins 1 fs]) → mVar 0 ρ (μ ++ [.ins 1 fs]) = some (.ok (.cell μ.length), μ ++ [.ins 1 fs]) → fs.length < 1000 →
      sSeq (sFldM nCls f (mVar 0) m) rest ρ (μ ++ [.ins 1 fs]) = rest ρ (μ ++ [.ins 1 (putD f d fs)]) := by
    intro ρ f m d fs rest h1 h2 h3
    rw [sSeq_ap, fld_ap h1 h2 get_end (show 1 < nCls by decide) h3, set_end]
    rfl
  have b1 : ∀ (ρ : En) (ν : Sto) (i j : Nat) (x : Bool) (d : D), ρ[i]? = some (some (.val d)) → ρ[j]? = some (some (.val (.bl x))) → mAnd (mOp2 dIsNot (mVar i) (mK .non)) (mVar j) ρ ν = some (.ok (.val (.bl ((!Sz.isNon d) && x))), ν) := by
    intro ρ ν i j x d h1 h2
    simp only [mVar_ap, slotM_some, List.getElem?_cons_zero, List.getElem?_cons_succ, List.set_cons_zero, List.set_cons_succ, mK_ap, andThen_ok, andThen_if, exThen_ok, exThen_if, vw_val, vw_fr, vw_cell, cellV_lst, cellV_frz, rt_val, rt_fr, rt_cell, fin2_ap, fin2K_some, opK_some, fin1_ap, op1K_some, mOp2_ap, mOp1_ap, add_ii, sub_ii, neg_i, not_b, lt_ii, le_ii, gt_ii, ge_ii, eq_ii, ne_ii, ix_lst, Sz.ix_tup, ix_scr, omap_some, atI0, atI1, atI2, bl?_bl, tBl_ap, tBlK_some, tNotM_ap, tAndM_ap, tOrM_ap, tTrue_ap, mIf_ap, mAnd_ap, mOr_ap, andK_some, orK_some, mArgs_nil, mArgs_cons, mOwns_nil, mOwns_cons, mList_ap, mTup_ap, mCallB_ap, finL1, finL2, finL3, finL4, finL5, finT2, finT3, vwK_some, vws_nil, vws_cons, opsK_some, finB_ap, len_scr, len_lst, len_tup, abs_i, min_ii, max_ii, int_b, int_i, seqK_nx, seqK_rt, seqK_ex, seqK_bk, seqK_ct, seqK_if, sSeq_ap, sNil_ap, sPass_ap, sBreak_ap, sCont_ap, sRet_ap, sRetN_ap, sIf_ap, sExpr_ap, nxK_some, sAsg_ap, gNm_ap, own_false, own_val, own_cell, own_fr, sPar2_ap, sPar3_ap, par2K_ap, par3K_ap, gVals_nil, gVK_some, gVals_cons, gTu_tup, gTu_lst, gTu_fr, finF_nx, finF_ex, finF_rt, finR_val, finR_fr, finF_if, mCallF_ap, mMake_ap, mMeth_ap, clsOf_obj, mAttr_ap, finA_obj, ite_true', ite_false', ite_T, ite_F, sFor_ap, iVal_ap, finI_lst, finI_fr, finI_tup, decide_eq_true_eq, Bool.not_eq_true', decide_eq_false_iff_not, Nat.reduceAdd, mLm_ap, lmK_cell, isLst_lst, finLm0, finLm1, finLm2, lm3K_lst, lm4K_some, get_end, set_end, is_non, isnot_non, isNon_non, isNon_int, isNon_tup, isNon_obj, eq_bb, Bool.not_true, Bool.not_false, h1, h2]
    cases Sz.isNon d <;> rfl
  rw [sSeq_ap, sIf_ap]
  rw [show (tOrM (tNotM (tBl (mCallF fi_is_end 1 [] [mVar 1] []))) (tOrM (tNotM (tBl (mCallF fi_is_end 1 [] [mVar 2] []))) (tOrM (tNotM (tBl (mCallB (bIsi nKit nKit subK) [mVar 3, mK (.ty "bool")]))) (tNotM (tBl (mCallB (bIsi nKit nKit subK) [mVar 4, mK (.ty "bool")])))))) [some (.cell μ.length), some (.val da), some (.val db), some (.val (.bl ia)), some (.val (.bl ib))] (μ ++ [.ins 1 []]) = some (.ok false, μ ++ [.ins 1 []]) from by simp only [mVar_ap, slotM_some, List.getElem?_cons_zero, List.getElem?_cons_succ, List.set_cons_zero, List.set_cons_succ, mK_ap, andThen_ok, andThen_if, exThen_ok, exThen_if, vw_val, vw_fr, vw_cell, cellV_lst, cellV_frz, rt_val, rt_fr, rt_cell, fin2_ap, fin2K_some, opK_some, fin1_ap, op1K_some, mOp2_ap, mOp1_ap, add_ii, sub_ii, neg_i, not_b, lt_ii, le_ii, gt_ii, ge_ii, eq_ii, ne_ii, ix_lst, Sz.ix_tup, ix_scr, omap_some, atI0, atI1, atI2, bl?_bl, tBl_ap, tBlK_some, tNotM_ap, tAndM_ap, tOrM_ap, tTrue_ap, mIf_ap, mAnd_ap, mOr_ap, andK_some, orK_some, mArgs_nil, mArgs_cons, mOwns_nil, mOwns_cons, mList_ap, mTup_ap, mCallB_ap, finL1, finL2, finL3, finL4, finL5, finT2, finT3, vwK_some, vws_nil, vws_cons, opsK_some, finB_ap, len_scr, len_lst, len_tup, abs_i, min_ii, max_ii, int_b, int_i, seqK_nx, seqK_rt, seqK_ex, seqK_bk, seqK_ct, seqK_if, sSeq_ap, sNil_ap, sPass_ap, sBreak_ap, sCont_ap, sRet_ap, sRetN_ap, sIf_ap, sExpr_ap, nxK_some, sAsg_ap, gNm_ap, own_false, own_val, own_cell, own_fr, sPar2_ap, sPar3_ap, par2K_ap, par3K_ap, gVals_nil, gVK_some, gVals_cons, gTu_tup, gTu_lst, gTu_fr, finF_nx, finF_ex, finF_rt, finR_val, finR_fr, finF_if, mCallF_ap, mMake_ap, mMeth_ap, clsOf_obj, mAttr_ap, finA_obj, ite_true', ite_false', ite_T, ite_F, sFor_ap, iVal_ap, finI_lst, finI_fr, finI_tup, decide_eq_true_eq, Bool.not_eq_true', decide_eq_false_iff_not, Nat.reduceAdd, mLm_ap, lmK_cell, isLst_lst, finLm0, finLm1, finLm2, lm3K_lst, lm4K_some, get_end, set_end, is_non, isnot_non, isNon_non, isNon_int, isNon_tup, isNon_obj, eq_bb, Bool.not_true, Bool.not_false, k1, k2, isi_bl_b]]
  rw [exThen_ok, ite_false', sNil_ap, seqK_nx, sSeq_ap, sIf_ap]
  rw [show (tNotM (tBl (mCallF fi_is_some 4 [] [mVar 1, mVar 2, mVar 3, mVar 4] []))) [some (.cell μ.length), some (.val da), some (.val db), some (.val (.bl ia)), some (.val (.bl ib))] (μ ++ [.ins 1 []]) = some (.ok false, μ ++ [.ins 1 []]) from by simp only [mVar_ap, slotM_some, List.getElem?_cons_zero, List.getElem?_cons_succ, List.set_cons_zero, List.set_cons_succ, mK_ap, andThen_ok, andThen_if, exThen_ok, exThen_if, vw_val, vw_fr, vw_cell, cellV_lst, cellV_frz, rt_val, rt_fr, rt_cell, fin2_ap, fin2K_some, opK_some, fin1_ap, op1K_some, mOp2_ap, mOp1_ap, add_ii, sub_ii, neg_i, not_b, lt_ii, le_ii, gt_ii, ge_ii, eq_ii, ne_ii, ix_lst, Sz.ix_tup, ix_scr, omap_some, atI0, atI1, atI2, bl?_bl, tBl_ap, tBlK_some, tNotM_ap, tAndM_ap, tOrM_ap, tTrue_ap, mIf_ap, mAnd_ap, mOr_ap, andK_some, orK_some, mArgs_nil, mArgs_cons, mOwns_nil, mOwns_cons, mList_ap, mTup_ap, mCallB_ap, finL1, finL2, finL3, finL4, finL5, finT2, finT3, vwK_some, vws_nil, vws_cons, opsK_some, finB_ap, len_scr, len_lst, len_tup, abs_i, min_ii, max_ii, int_b, int_i, seqK_nx, seqK_rt, seqK_ex, seqK_bk, seqK_ct, seqK_if, sSeq_ap, sNil_ap, sPass_ap, sBreak_ap, sCont_ap, sRet_ap, sRetN_ap, sIf_ap, sExpr_ap, nxK_some, sAsg_ap, gNm_ap, own_false, own_val, own_cell, own_fr, sPar2_ap, sPar3_ap, par2K_ap, par3K_ap, gVals_nil, gVK_some, gVals_cons, gTu_tup, gTu_lst, gTu_fr, finF_nx, finF_ex, finF_rt, finR_val, finR_fr, finF_if, mCallF_ap, mMake_ap, mMeth_ap, clsOf_obj, mAttr_ap, finA_obj, ite_true', ite_false', ite_T, ite_F, sFor_ap, iVal_ap, finI_lst, finI_fr, finI_tup, decide_eq_true_eq, Bool.not_eq_true', decide_eq_false_iff_not, Nat.reduceAdd, mLm_ap, lmK_cell, isLst_lst, finLm0, finLm1, finLm2, lm3K_lst, lm4K_some, get_end, set_end, is_non, isnot_non, isNon_non, isNon_int, isNon_tup, isNon_obj, eq_bb, Bool.not_true, Bool.not_false, k3]]
  rw [exThen_ok, ite_false', sNil_ap, seqK_nx]
  rw [st _ _ _ da _ _ rfl rfl (by decide), st _ _ _ db _ _ rfl rfl (by show 1 < 1000; decide), st _ _ _ _ _ _ (b1 _ _ 1 3 ia da rfl rfl) rfl (by show 2 < 1000; decide), st _ _ _ _ _ _ (b1 _ _ 2 4 ib db rfl rfl) rfl (by show 3 < 1000; decide)]
  rw [sNil_ap, finF_nx, List.length_append, List.take_of_length_le (by rw [List.length_append]; exact Nat.le_refl _)]
  show finM mk_Stretch μ.length (some (.ok (.val .non), μ ++ [.ins 1 [("low", da), ("high", db), ("low_in", .bl ((!Sz.isNon da) && ia)), ("high_in", .bl ((!Sz.isNon db) && ib))]])) = _
  rw [finM_ap (c := 1) (fs := [("low", da), ("high", db), ("low_in", .bl ((!Sz.isNon da) && ia)), ("high_in", .bl ((!Sz.isNon db) && ib))]) get_end rfl rfl, take_end, n1, n2]
  rfl
/-! slices -/
theorem mSl_ap {a : ME} {lo hi : MO} {ρ : En} {μ : Sto} : mSl a lo hi ρ μ = andThen (a ρ μ) fun s μ1 => andThen (lo ρ μ1) fun l μ2 => andThen (hi ρ μ2) fun u μ3 => slK μ3 l u (vw μ3 (rt s)) := rfl
theorem oNone_ap {ρ : En} {μ : Sto} : oNone ρ μ = some (.ok none, μ) := rfl
theorem oSome_ap {m : ME} {ρ : En} {μ : Sto} : oSome m ρ μ = andThen (m ρ μ) fun s μ1 => intK μ1 (vw μ1 s) := rfl
theorem intK_int {i : Int} {μ : Sto} : intK μ (some (.int i)) = some (.ok (some i), μ) := rfl
theorem slK_lst {lo hi : Option Int} {ds : List D} {μ : Sto} : slK μ lo hi (some (.lst ds)) = some (.ok (.fr (cutD ds lo hi)), μ) := rfl
theorem slK_4 {a b c d : D} {μ : Sto} : slK μ none (some 2) (some (.tup [a, b, c, d])) = some (.ok (.val (.tup [a, b])), μ) := by
  show (match dSl (.tup [a, b, c, d]) none (some 2) with
    | some s => some (Except.ok s, μ)
    | none => none) = (some (Except.ok (S.val (.tup [a, b])), μ) : Option R)
  have e : dSl (.tup [a, b, c, d]) none (some 2) = some (.val (.tup [a, b])) := by
    unfold dSl
    dsimp only
    rw [if_neg (by show ¬ (HT.sIx 4 0 none = 0 ∧ HT.sIx 4 4 (some 2) = 4); decide)]
    rfl
  rw [e]
theorem cut3 {ds : List D} (h : ds.length ≤ 2) : cutD ds none (some 3) = ds := by
  match ds, h with
  | [], _ => rfl
  | [a], _ => rfl
  | [a, b], _ => rfl
/-! the measure of an end -/
theorem ix_dP0 {x : Int × Int} : dIx (dP x) (.int 0) = some (.val (.int x.1)) := rfl
theorem ix_dP1 {x : Int × Int} : dIx (dP x) (.int 1) = some (.val (.int x.2)) := rfl
theorem measure_call {m n : Nat} {a : Option (Int × Int)} (h : FrE m m a) (hn : m ≤ 9000) : ∃ d, (∀ μ : Sto, callF fi_l_measure 1 [] [.val (dE a)] [] μ = some (.ok (.val d), μ)) ∧ ObE m a d := by
  have st : ∀ μ : Sto, callF fi_l_measure 1 [] [.val (dE a)] [] μ = finF μ.length (c_l_measure [some (.val (dE a))] μ) := fun μ =>
    (show callF fi_l_measure 1 [] [.val (dE a)] [] μ = fi_l_measure.sem [.val (dE a)] μ from callF_eq rfl rfl rfl).trans rfl
  cases a with
  | none =>
    refine ⟨.non, fun μ => ?_, rfl⟩
    rw [st]
    unfold c_l_measure
    simp only [mVar_ap, slotM_some, List.getElem?_cons_zero, List.getElem?_cons_succ, List.set_cons_zero, List.set_cons_succ, mK_ap, andThen_ok, andThen_if, exThen_ok, exThen_if, vw_val, vw_fr, vw_cell, cellV_lst, cellV_frz, rt_val, rt_fr, rt_cell, fin2_ap, fin2K_some, opK_some, fin1_ap, op1K_some, mOp2_ap, mOp1_ap, add_ii, sub_ii, neg_i, not_b, lt_ii, le_ii, gt_ii, ge_ii, eq_ii, ne_ii, ix_lst, Sz.ix_tup, ix_scr, omap_some, atI0, atI1, atI2, bl?_bl, tBl_ap, tBlK_some, tNotM_ap, tAndM_ap, tOrM_ap, tTrue_ap, mIf_ap, mAnd_ap, mOr_ap, andK_some, orK_some, mArgs_nil, mArgs_cons, mOwns_nil, mOwns_cons, mList_ap, mTup_ap, mCallB_ap, finL1, finL2, finL3, finL4, finL5, finT2, finT3, vwK_some, vws_nil, vws_cons, opsK_some, finB_ap, len_scr, len_lst, len_tup, abs_i, min_ii, max_ii, int_b, int_i, seqK_nx, seqK_rt, seqK_ex, seqK_bk, seqK_ct, seqK_if, sSeq_ap, sNil_ap, sPass_ap, sBreak_ap, sCont_ap, sRet_ap, sRetN_ap, sIf_ap, sExpr_ap, nxK_some, sAsg_ap, gNm_ap, own_false, own_val, own_cell, own_fr, sPar2_ap, sPar3_ap, par2K_ap, par3K_ap, gVals_nil, gVK_some, gVals_cons, gTu_tup, gTu_lst, gTu_fr, finF_nx, finF_ex, finF_rt, finR_val, finR_fr, finF_if, mCallF_ap, mMake_ap, mMeth_ap, clsOf_obj, mAttr_ap, finA_obj, ite_true', ite_false', ite_T, ite_F, sFor_ap, iVal_ap, finI_lst, finI_fr, finI_tup, decide_eq_true_eq, Bool.not_eq_true', decide_eq_false_iff_not, Nat.reduceAdd, mLm_ap, lmK_cell, isLst_lst, finLm0, finLm1, finLm2, lm3K_lst, lm4K_some, get_end, set_end, is_non, isnot_non, isNon_non, isNon_int, isNon_tup, isNon_obj, eq_bb, Bool.not_true, Bool.not_false, dE]
    rw [List.take_length]
  | some x =>
    obtain ⟨t, u, e, i⟩ := make_ex (n := m) (show x.2 ≠ 0 by have := h.2.2; omega) h.1 h.2.1 hn
    refine ⟨Ob t u, fun μ => ?_, t, u, rfl, i, h.2.2⟩
    rw [st]
    unfold c_l_measure
    simp only [mVar_ap, slotM_some, List.getElem?_cons_zero, List.getElem?_cons_succ, List.set_cons_zero, List.set_cons_succ, mK_ap, andThen_ok, andThen_if, exThen_ok, exThen_if, vw_val, vw_fr, vw_cell, cellV_lst, cellV_frz, rt_val, rt_fr, rt_cell, fin2_ap, fin2K_some, opK_some, fin1_ap, op1K_some, mOp2_ap, mOp1_ap, add_ii, sub_ii, neg_i, not_b, lt_ii, le_ii, gt_ii, ge_ii, eq_ii, ne_ii, ix_lst, Sz.ix_tup, ix_scr, omap_some, atI0, atI1, atI2, bl?_bl, tBl_ap, tBlK_some, tNotM_ap, tAndM_ap, tOrM_ap, tTrue_ap, mIf_ap, mAnd_ap, mOr_ap, andK_some, orK_some, mArgs_nil, mArgs_cons, mOwns_nil, mOwns_cons, mList_ap, mTup_ap, mCallB_ap, finL1, finL2, finL3, finL4, finL5, finT2, finT3, vwK_some, vws_nil, vws_cons, opsK_some, finB_ap, len_scr, len_lst, len_tup, abs_i, min_ii, max_ii, int_b, int_i, seqK_nx, seqK_rt, seqK_ex, seqK_bk, seqK_ct, seqK_if, sSeq_ap, sNil_ap, sPass_ap, sBreak_ap, sCont_ap, sRet_ap, sRetN_ap, sIf_ap, sExpr_ap, nxK_some, sAsg_ap, gNm_ap, own_false, own_val, own_cell, own_fr, sPar2_ap, sPar3_ap, par2K_ap, par3K_ap, gVals_nil, gVK_some, gVals_cons, gTu_tup, gTu_lst, gTu_fr, finF_nx, finF_ex, finF_rt, finR_val, finR_fr, finF_if, mCallF_ap, mMake_ap, mMeth_ap, clsOf_obj, mAttr_ap, finA_obj, ite_true', ite_false', ite_T, ite_F, sFor_ap, iVal_ap, finI_lst, finI_fr, finI_tup, decide_eq_true_eq, Bool.not_eq_true', decide_eq_false_iff_not, Nat.reduceAdd, mLm_ap, lmK_cell, isLst_lst, finLm0, finLm1, finLm2, lm3K_lst, lm4K_some, get_end, set_end, is_non, isnot_non, isNon_non, isNon_int, isNon_tup, isNon_obj, eq_bb, Bool.not_true, Bool.not_false, dE, isNon_dP, ix_dP0, ix_dP1, e]
    rw [List.take_length]
theorem made_call {a b : Option (Int × Int)} {ia ib : Bool} {m : Nat} (ha : FrE m m a) (hb : FrE m m b) (hn : m ≤ 9000) (hs : someB a b ia ib = true) : ∃ da db, (∀ μ : Sto, callF fi_l_made 1 [] [.val (.tup [dE a, dE b, .bl ia, .bl ib])] [] μ = some (.ok (.val (Str4 da db (a.isSome && ia) (b.isSome && ib))), μ)) ∧ ObE m a da ∧ ObE m b db := by
  obtain ⟨da, e1, oa⟩ := measure_call (n := m) ha hn
  obtain ⟨db, e2, ob⟩ := measure_call (n := m) hb hn
  refine ⟨da, db, fun μ => ?_, oa, ob⟩
  rw [show callF fi_l_made 1 [] [.val (.tup [dE a, dE b, .bl ia, .bl ib])] [] μ = fi_l_made.sem [.val (.tup [dE a, dE b, .bl ia, .bl ib])] μ from callF_eq rfl rfl rfl]
  rw [show fi_l_made.sem [.val (.tup [dE a, dE b, .bl ia, .bl ib])] μ = finF μ.length (c_l_made [some (.val (.tup [dE a, dE b, .bl ia, .bl ib]))] μ) from rfl]
  unfold c_l_made
  have i3 : ∀ w x y z : D, atI [w, x, y, z] 3 = some z := fun w x y z => rfl
  simp only [mVar_ap, slotM_some, List.getElem?_cons_zero, List.getElem?_cons_succ, List.set_cons_zero, List.set_cons_succ, mK_ap, andThen_ok, andThen_if, exThen_ok, exThen_if, vw_val, vw_fr, vw_cell, cellV_lst, cellV_frz, rt_val, rt_fr, rt_cell, fin2_ap, fin2K_some, opK_some, fin1_ap, op1K_some, mOp2_ap, mOp1_ap, add_ii, sub_ii, neg_i, not_b, lt_ii, le_ii, gt_ii, ge_ii, eq_ii, ne_ii, ix_lst, Sz.ix_tup, ix_scr, omap_some, atI0, atI1, atI2, bl?_bl, tBl_ap, tBlK_some, tNotM_ap, tAndM_ap, tOrM_ap, tTrue_ap, mIf_ap, mAnd_ap, mOr_ap, andK_some, orK_some, mArgs_nil, mArgs_cons, mOwns_nil, mOwns_cons, mList_ap, mTup_ap, mCallB_ap, finL1, finL2, finL3, finL4, finL5, finT2, finT3, vwK_some, vws_nil, vws_cons, opsK_some, finB_ap, len_scr, len_lst, len_tup, abs_i, min_ii, max_ii, int_b, int_i, seqK_nx, seqK_rt, seqK_ex, seqK_bk, seqK_ct, seqK_if, sSeq_ap, sNil_ap, sPass_ap, sBreak_ap, sCont_ap, sRet_ap, sRetN_ap, sIf_ap, sExpr_ap, nxK_some, sAsg_ap, gNm_ap, own_false, own_val, own_cell, own_fr, sPar2_ap, sPar3_ap, par2K_ap, par3K_ap, gVals_nil, gVK_some, gVals_cons, gTu_tup, gTu_lst, gTu_fr, finF_nx, finF_ex, finF_rt, finR_val, finR_fr, finF_if, mCallF_ap, mMake_ap, mMeth_ap, clsOf_obj, mAttr_ap, finA_obj, ite_true', ite_false', ite_T, ite_F, sFor_ap, iVal_ap, finI_lst, finI_fr, finI_tup, decide_eq_true_eq, Bool.not_eq_true', decide_eq_false_iff_not, Nat.reduceAdd, mLm_ap, lmK_cell, isLst_lst, finLm0, finLm1, finLm2, lm3K_lst, lm4K_some, get_end, set_end, is_non, isnot_non, isNon_non, isNon_int, isNon_tup, isNon_obj, eq_bb, Bool.not_true, Bool.not_false, e1, e2, i3, stretch_make oa ob hn hs]
  rw [List.take_length]
def loB (z : Int × Int) (ia : Bool) : Option (Int × Int) → Bool
  | none => true
  | some x => decide (x.1 * z.2 < z.1 * x.2) || (ia && decide (x.1 * z.2 = z.1 * x.2))
def hiB (z : Int × Int) (ib : Bool) : Option (Int × Int) → Bool
  | none => true
  | some y => decide (z.1 * y.2 < y.1 * z.2) || (ib && decide (z.1 * y.2 = y.1 * z.2))
def inB (a b : Option (Int × Int)) (ia ib : Bool) (z : Int × Int) : Bool := loB z ia a && hiB z ib b
theorem in_call {m n : Nat} {a b : Option (Int × Int)} {ia ib : Bool} {z : Int × Int} {μ : Sto} (ha : FrE m n a) (hb : FrE m n b) (hz : Fr2 m n z) (e : m + n ≤ 134217728) :
    callF fi_l_in 2 [] [.val (.tup [dE a, dE b, .bl ia, .bl ib]), .val (dP z)] [] μ = some (.ok (.val (.bl (inB a b ia ib z))), μ) := by
  rw [show callF fi_l_in 2 [] [.val (.tup [dE a, dE b, .bl ia, .bl ib]), .val (dP z)] [] μ = fi_l_in.sem [.val (.tup [dE a, dE b, .bl ia, .bl ib]), .val (dP z)] μ from callF_eq rfl rfl rfl]
  rw [show fi_l_in.sem [.val (.tup [dE a, dE b, .bl ia, .bl ib]), .val (dP z)] μ = finF μ.length (c_l_in [some (.val (.tup [dE a, dE b, .bl ia, .bl ib])), some (.val (dP z)), none, none, none, none] μ) from rfl]
  unfold c_l_in
  have second : ∀ A : Bool, A = true → inB a b ia ib z = (A && hiB z ib b) → finF μ.length (seqK (some (.nx, [some (.val (.tup [dE a, dE b, .bl ia, .bl ib])), some (.val (dP z)), some (.val (dE a)), some (.val (dE b)), some (.val (.bl ia)), some (.val (.bl ib))], μ)) (sSeq (sRet (mOr (mOp2 dIs (mVar 3) (mK .non)) (mOr (mCallF fi_l_below 2 [] [mVar 1, mVar 3] []) (mAnd (mVar 5) (mCallF fi_l_same 2 [] [mVar 1, mVar 3] []))))) sNil)) = some (.ok (.val (.bl (inB a b ia ib z))), μ) := by
    intro A hA hI
    rw [hI, hA, Bool.true_and]
    cases b with
    | none =>
      simp only [mVar_ap, slotM_some, List.getElem?_cons_zero, List.getElem?_cons_succ, List.set_cons_zero, List.set_cons_succ, mK_ap, andThen_ok, andThen_if, exThen_ok, exThen_if, vw_val, vw_fr, vw_cell, cellV_lst, cellV_frz, rt_val, rt_fr, rt_cell, fin2_ap, fin2K_some, opK_some, fin1_ap, op1K_some, mOp2_ap, mOp1_ap, add_ii, sub_ii, neg_i, not_b, lt_ii, le_ii, gt_ii, ge_ii, eq_ii, ne_ii, ix_lst, Sz.ix_tup, ix_scr, omap_some, atI0, atI1, atI2, bl?_bl, tBl_ap, tBlK_some, tNotM_ap, tAndM_ap, tOrM_ap, tTrue_ap, mIf_ap, mAnd_ap, mOr_ap, andK_some, orK_some, mArgs_nil, mArgs_cons, mOwns_nil, mOwns_cons, mList_ap, mTup_ap, mCallB_ap, finL1, finL2, finL3, finL4, finL5, finT2, finT3, vwK_some, vws_nil, vws_cons, opsK_some, finB_ap, len_scr, len_lst, len_tup, abs_i, min_ii, max_ii, int_b, int_i, seqK_nx, seqK_rt, seqK_ex, seqK_bk, seqK_ct, seqK_if, sSeq_ap, sNil_ap, sPass_ap, sBreak_ap, sCont_ap, sRet_ap, sRetN_ap, sIf_ap, sExpr_ap, nxK_some, sAsg_ap, gNm_ap, own_false, own_val, own_cell, own_fr, sPar2_ap, sPar3_ap, par2K_ap, par3K_ap, gVals_nil, gVK_some, gVals_cons, gTu_tup, gTu_lst, gTu_fr, finF_nx, finF_ex, finF_rt, finR_val, finR_fr, finF_if, mCallF_ap, mMake_ap, mMeth_ap, clsOf_obj, mAttr_ap, finA_obj, ite_true', ite_false', ite_T, ite_F, sFor_ap, iVal_ap, finI_lst, finI_fr, finI_tup, decide_eq_true_eq, Bool.not_eq_true', decide_eq_false_iff_not, Nat.reduceAdd, mLm_ap, lmK_cell, isLst_lst, finLm0, finLm1, finLm2, lm3K_lst, lm4K_some, get_end, set_end, is_non, isnot_non, isNon_non, isNon_int, isNon_tup, isNon_obj, eq_bb, Bool.not_true, Bool.not_false, dE]
      rw [List.take_length]
      rfl
    | some y =>
      have k1 := fun ν : Sto => below_call (μ := ν) hz hb e
      have k2 := fun ν : Sto => same_call (μ := ν) hz hb e
      generalize hlt : decide (z.1 * y.2 < y.1 * z.2) = lt at k1
      generalize hsm : decide (z.1 * y.2 = y.1 * z.2) = sm at k2
      show _ = some (Except.ok (S.val (.bl (decide (z.1 * y.2 < y.1 * z.2) || (ib && decide (z.1 * y.2 = y.1 * z.2))))), μ)
      rw [hlt, hsm]
      cases lt <;> cases ib <;> (simp only [mVar_ap, slotM_some, List.getElem?_cons_zero, List.getElem?_cons_succ, List.set_cons_zero, List.set_cons_succ, mK_ap, andThen_ok, andThen_if, exThen_ok, exThen_if, vw_val, vw_fr, vw_cell, cellV_lst, cellV_frz, rt_val, rt_fr, rt_cell, fin2_ap, fin2K_some, opK_some, fin1_ap, op1K_some, mOp2_ap, mOp1_ap, add_ii, sub_ii, neg_i, not_b, lt_ii, le_ii, gt_ii, ge_ii, eq_ii, ne_ii, ix_lst, Sz.ix_tup, ix_scr, omap_some, atI0, atI1, atI2, bl?_bl, tBl_ap, tBlK_some, tNotM_ap, tAndM_ap, tOrM_ap, tTrue_ap, mIf_ap, mAnd_ap, mOr_ap, andK_some, orK_some, mArgs_nil, mArgs_cons, mOwns_nil, mOwns_cons, mList_ap, mTup_ap, mCallB_ap, finL1, finL2, finL3, finL4, finL5, finT2, finT3, vwK_some, vws_nil, vws_cons, opsK_some, finB_ap, len_scr, len_lst, len_tup, abs_i, min_ii, max_ii, int_b, int_i, seqK_nx, seqK_rt, seqK_ex, seqK_bk, seqK_ct, seqK_if, sSeq_ap, sNil_ap, sPass_ap, sBreak_ap, sCont_ap, sRet_ap, sRetN_ap, sIf_ap, sExpr_ap, nxK_some, sAsg_ap, gNm_ap, own_false, own_val, own_cell, own_fr, sPar2_ap, sPar3_ap, par2K_ap, par3K_ap, gVals_nil, gVK_some, gVals_cons, gTu_tup, gTu_lst, gTu_fr, finF_nx, finF_ex, finF_rt, finR_val, finR_fr, finF_if, mCallF_ap, mMake_ap, mMeth_ap, clsOf_obj, mAttr_ap, finA_obj, ite_true', ite_false', ite_T, ite_F, sFor_ap, iVal_ap, finI_lst, finI_fr, finI_tup, decide_eq_true_eq, Bool.not_eq_true', decide_eq_false_iff_not, Nat.reduceAdd, mLm_ap, lmK_cell, isLst_lst, finLm0, finLm1, finLm2, lm3K_lst, lm4K_some, get_end, set_end, is_non, isnot_non, isNon_non, isNon_int, isNon_tup, isNon_obj, eq_bb, Bool.not_true, Bool.not_false, dE, isNon_dP, k1, k2, Bool.false_or, Bool.true_or, Bool.and_false, Bool.false_and, Bool.true_and]; rw [List.take_length])
  cases a with
  | none =>
    rw [← second true rfl rfl]
    simp only [mVar_ap, slotM_some, List.getElem?_cons_zero, List.getElem?_cons_succ, List.set_cons_zero, List.set_cons_succ, mK_ap, andThen_ok, andThen_if, exThen_ok, exThen_if, vw_val, vw_fr, vw_cell, cellV_lst, cellV_frz, rt_val, rt_fr, rt_cell, fin2_ap, fin2K_some, opK_some, fin1_ap, op1K_some, mOp2_ap, mOp1_ap, add_ii, sub_ii, neg_i, not_b, lt_ii, le_ii, gt_ii, ge_ii, eq_ii, ne_ii, ix_lst, Sz.ix_tup, ix_scr, omap_some, atI0, atI1, atI2, bl?_bl, tBl_ap, tBlK_some, tNotM_ap, tAndM_ap, tOrM_ap, tTrue_ap, mIf_ap, mAnd_ap, mOr_ap, andK_some, orK_some, mArgs_nil, mArgs_cons, mOwns_nil, mOwns_cons, mList_ap, mTup_ap, mCallB_ap, finL1, finL2, finL3, finL4, finL5, finT2, finT3, vwK_some, vws_nil, vws_cons, opsK_some, finB_ap, len_scr, len_lst, len_tup, abs_i, min_ii, max_ii, int_b, int_i, seqK_nx, seqK_rt, seqK_ex, seqK_bk, seqK_ct, seqK_if, sSeq_ap, sNil_ap, sPass_ap, sBreak_ap, sCont_ap, sRet_ap, sRetN_ap, sIf_ap, sExpr_ap, nxK_some, sAsg_ap, gNm_ap, own_false, own_val, own_cell, own_fr, sPar2_ap, sPar3_ap, par2K_ap, par3K_ap, gVals_nil, gVK_some, gVals_cons, gTu_tup, gTu_lst, gTu_fr, finF_nx, finF_ex, finF_rt, finR_val, finR_fr, finF_if, mCallF_ap, mMake_ap, mMeth_ap, clsOf_obj, mAttr_ap, finA_obj, ite_true', ite_false', ite_T, ite_F, sFor_ap, iVal_ap, finI_lst, finI_fr, finI_tup, decide_eq_true_eq, Bool.not_eq_true', decide_eq_false_iff_not, Nat.reduceAdd, mLm_ap, lmK_cell, isLst_lst, finLm0, finLm1, finLm2, lm3K_lst, lm4K_some, get_end, set_end, is_non, isnot_non, isNon_non, isNon_int, isNon_tup, isNon_obj, eq_bb, Bool.not_true, Bool.not_false, dE]
  | some x =>
    have k1 := fun ν : Sto => below_call (μ := ν) ha hz e
    have k2 := fun ν : Sto => same_call (μ := ν) ha hz e
    generalize hlt : decide (x.1 * z.2 < z.1 * x.2) = lt at k1
    generalize hsm : decide (x.1 * z.2 = z.1 * x.2) = sm at k2
    have hA : ∀ Y : Bool, ((decide (x.1 * z.2 < z.1 * x.2) || (ia && decide (x.1 * z.2 = z.1 * x.2))) && Y) = ((lt || (ia && sm)) && Y) := fun Y => by rw [hlt, hsm]
    cases hB : (lt || (ia && sm)) with
    | true =>
      rw [← second true rfl ((hA _).trans (by rw [hB]))]
      cases lt <;> cases ia <;> cases sm <;> first | (cases hB; done) | simp only [mVar_ap, slotM_some, List.getElem?_cons_zero, List.getElem?_cons_succ, List.set_cons_zero, List.set_cons_succ, mK_ap, andThen_ok, andThen_if, exThen_ok, exThen_if, vw_val, vw_fr, vw_cell, cellV_lst, cellV_frz, rt_val, rt_fr, rt_cell, fin2_ap, fin2K_some, opK_some, fin1_ap, op1K_some, mOp2_ap, mOp1_ap, add_ii, sub_ii, neg_i, not_b, lt_ii, le_ii, gt_ii, ge_ii, eq_ii, ne_ii, ix_lst, Sz.ix_tup, ix_scr, omap_some, atI0, atI1, atI2, bl?_bl, tBl_ap, tBlK_some, tNotM_ap, tAndM_ap, tOrM_ap, tTrue_ap, mIf_ap, mAnd_ap, mOr_ap, andK_some, orK_some, mArgs_nil, mArgs_cons, mOwns_nil, mOwns_cons, mList_ap, mTup_ap, mCallB_ap, finL1, finL2, finL3, finL4, finL5, finT2, finT3, vwK_some, vws_nil, vws_cons, opsK_some, finB_ap, len_scr, len_lst, len_tup, abs_i, min_ii, max_ii, int_b, int_i, seqK_nx, seqK_rt, seqK_ex, seqK_bk, seqK_ct, seqK_if, sSeq_ap, sNil_ap, sPass_ap, sBreak_ap, sCont_ap, sRet_ap, sRetN_ap, sIf_ap, sExpr_ap, nxK_some, sAsg_ap, gNm_ap, own_false, own_val, own_cell, own_fr, sPar2_ap, sPar3_ap, par2K_ap, par3K_ap, gVals_nil, gVK_some, gVals_cons, gTu_tup, gTu_lst, gTu_fr, finF_nx, finF_ex, finF_rt, finR_val, finR_fr, finF_if, mCallF_ap, mMake_ap, mMeth_ap, clsOf_obj, mAttr_ap, finA_obj, ite_true', ite_false', ite_T, ite_F, sFor_ap, iVal_ap, finI_lst, finI_fr, finI_tup, decide_eq_true_eq, Bool.not_eq_true', decide_eq_false_iff_not, Nat.reduceAdd, mLm_ap, lmK_cell, isLst_lst, finLm0, finLm1, finLm2, lm3K_lst, lm4K_some, get_end, set_end, is_non, isnot_non, isNon_non, isNon_int, isNon_tup, isNon_obj, eq_bb, Bool.not_true, Bool.not_false, dE, isNon_dP, k1, k2]
    | false =>
      have : inB (some x) b ia ib z = false := (hA _).trans (by rw [hB]; rfl)
      rw [this]
      cases lt <;> cases ia <;> cases sm <;> first | (cases hB; done) | (simp only [mVar_ap, slotM_some, List.getElem?_cons_zero, List.getElem?_cons_succ, List.set_cons_zero, List.set_cons_succ, mK_ap, andThen_ok, andThen_if, exThen_ok, exThen_if, vw_val, vw_fr, vw_cell, cellV_lst, cellV_frz, rt_val, rt_fr, rt_cell, fin2_ap, fin2K_some, opK_some, fin1_ap, op1K_some, mOp2_ap, mOp1_ap, add_ii, sub_ii, neg_i, not_b, lt_ii, le_ii, gt_ii, ge_ii, eq_ii, ne_ii, ix_lst, Sz.ix_tup, ix_scr, omap_some, atI0, atI1, atI2, bl?_bl, tBl_ap, tBlK_some, tNotM_ap, tAndM_ap, tOrM_ap, tTrue_ap, mIf_ap, mAnd_ap, mOr_ap, andK_some, orK_some, mArgs_nil, mArgs_cons, mOwns_nil, mOwns_cons, mList_ap, mTup_ap, mCallB_ap, finL1, finL2, finL3, finL4, finL5, finT2, finT3, vwK_some, vws_nil, vws_cons, opsK_some, finB_ap, len_scr, len_lst, len_tup, abs_i, min_ii, max_ii, int_b, int_i, seqK_nx, seqK_rt, seqK_ex, seqK_bk, seqK_ct, seqK_if, sSeq_ap, sNil_ap, sPass_ap, sBreak_ap, sCont_ap, sRet_ap, sRetN_ap, sIf_ap, sExpr_ap, nxK_some, sAsg_ap, gNm_ap, own_false, own_val, own_cell, own_fr, sPar2_ap, sPar3_ap, par2K_ap, par3K_ap, gVals_nil, gVK_some, gVals_cons, gTu_tup, gTu_lst, gTu_fr, finF_nx, finF_ex, finF_rt, finR_val, finR_fr, finF_if, mCallF_ap, mMake_ap, mMeth_ap, clsOf_obj, mAttr_ap, finA_obj, ite_true', ite_false', ite_T, ite_F, sFor_ap, iVal_ap, finI_lst, finI_fr, finI_tup, decide_eq_true_eq, Bool.not_eq_true', decide_eq_false_iff_not, Nat.reduceAdd, mLm_ap, lmK_cell, isLst_lst, finLm0, finLm1, finLm2, lm3K_lst, lm4K_some, get_end, set_end, is_non, isnot_non, isNon_non, isNon_int, isNon_tup, isNon_obj, eq_bb, Bool.not_true, Bool.not_false, dE, isNon_dP, k1, k2]; rw [List.take_length])
def beginL : Option (Int × Int) → Bool → Option (Int × Int) → Bool → Option (Int × Int) × Bool
  | none, _, a', ia' => (a', ia')
  | some x, ia, none, _ => (some x, ia)
  | some x, ia, some y, ia' => if x.1 * y.2 < y.1 * x.2 then (some y, ia') else if x.1 * y.2 = y.1 * x.2 then (some x, ia && ia') else (some x, ia)
def endL : Option (Int × Int) → Bool → Option (Int × Int) → Bool → Option (Int × Int) × Bool
  | none, _, b', ib' => (b', ib')
  | some x, ib, none, _ => (some x, ib)
  | some x, ib, some y, ib' => if y.1 * x.2 < x.1 * y.2 then (some y, ib') else if x.1 * y.2 = y.1 * x.2 then (some x, ib && ib') else (some x, ib)
theorem i30 {w x y z : D} : atI [w, x, y, z] 3 = some z := rfl
abbrev T4 (a b : Option (Int × Int)) (ia ib : Bool) : D := .tup [dE a, dE b, .bl ia, .bl ib]
section
variable {a b a' b' : Option (Int × Int)} {ia ib ia' ib' : Bool} {m n : Nat} {s2 s3 s4 s5 : Option S} {μ : Sto}
theorem cut_lo (ha : FrE m n a) (ha' : FrE m n a') (e : m + n ≤ 134217728) :
    sIf (tOrM (tBl (mOp2 dIs (mVar 2) (mK .non))) (tAndM (tBl (mOp2 dIsNot (mOp2 dIx (mVar 1) (mK (.int 0))) (mK .non))) (tBl (mCallF fi_l_below 2 [] [mVar 2, mOp2 dIx (mVar 1) (mK (.int 0))] [])))) (sSeq (sPar2 2 3 [(false, mOp2 dIx (mVar 1) (mK (.int 0))), (false, mOp2 dIx (mVar 1) (mK (.int 2)))]) sNil) (sSeq (sIf (tAndM (tBl (mOp2 dIsNot (mOp2 dIx (mVar 1) (mK (.int 0))) (mK .non))) (tBl (mCallF fi_l_same 2 [] [mVar 2, mOp2 dIx (mVar 1) (mK (.int 0))] []))) (sSeq (sAsg (gNm 3 false) (mAnd (mVar 3) (mOp2 dIx (mVar 1) (mK (.int 2))))) sNil) sNil) sNil)
      [some (.val (T4 a b ia ib)), some (.val (T4 a' b' ia' ib')), some (.val (dE a)), some (.val (.bl ia)), s4, s5] μ = some (.nx, [some (.val (T4 a b ia ib)), some (.val (T4 a' b' ia' ib')), some (.val (dE (beginL a ia a' ia').1)), some (.val (.bl (beginL a ia a' ia').2)), s4, s5], μ) := by
  cases a with
  | none =>
    simp only [mVar_ap, slotM_some, List.getElem?_cons_zero, List.getElem?_cons_succ, List.set_cons_zero, List.set_cons_succ, mK_ap, andThen_ok, andThen_if, exThen_ok, exThen_if, vw_val, vw_fr, vw_cell, cellV_lst, cellV_frz, rt_val, rt_fr, rt_cell, fin2_ap, fin2K_some, opK_some, fin1_ap, op1K_some, mOp2_ap, mOp1_ap, add_ii, sub_ii, neg_i, not_b, lt_ii, le_ii, gt_ii, ge_ii, eq_ii, ne_ii, ix_lst, Sz.ix_tup, ix_scr, omap_some, atI0, atI1, atI2, bl?_bl, tBl_ap, tBlK_some, tNotM_ap, tAndM_ap, tOrM_ap, tTrue_ap, mIf_ap, mAnd_ap, mOr_ap, andK_some, orK_some, mArgs_nil, mArgs_cons, mOwns_nil, mOwns_cons, mList_ap, mTup_ap, mCallB_ap, finL1, finL2, finL3, finL4, finL5, finT2, finT3, vwK_some, vws_nil, vws_cons, opsK_some, finB_ap, len_scr, len_lst, len_tup, abs_i, min_ii, max_ii, int_b, int_i, seqK_nx, seqK_rt, seqK_ex, seqK_bk, seqK_ct, seqK_if, sSeq_ap, sNil_ap, sPass_ap, sBreak_ap, sCont_ap, sRet_ap, sRetN_ap, sIf_ap, sExpr_ap, nxK_some, sAsg_ap, gNm_ap, own_false, own_val, own_cell, own_fr, sPar2_ap, sPar3_ap, par2K_ap, par3K_ap, gVals_nil, gVK_some, gVals_cons, gTu_tup, gTu_lst, gTu_fr, finF_nx, finF_ex, finF_rt, finR_val, finR_fr, finF_if, mCallF_ap, mMake_ap, mMeth_ap, clsOf_obj, mAttr_ap, finA_obj, ite_true', ite_false', ite_T, ite_F, sFor_ap, iVal_ap, finI_lst, finI_fr, finI_tup, decide_eq_true_eq, Bool.not_eq_true', decide_eq_false_iff_not, Nat.reduceAdd, mLm_ap, lmK_cell, isLst_lst, finLm0, finLm1, finLm2, lm3K_lst, lm4K_some, get_end, set_end, is_non, isnot_non, isNon_non, isNon_int, isNon_tup, isNon_obj, eq_bb, Bool.not_true, Bool.not_false, dE]
    rfl
  | some x =>
    cases a' with
    | none =>
      simp only [mVar_ap, slotM_some, List.getElem?_cons_zero, List.getElem?_cons_succ, List.set_cons_zero, List.set_cons_succ, mK_ap, andThen_ok, andThen_if, exThen_ok, exThen_if, vw_val, vw_fr, vw_cell, cellV_lst, cellV_frz, rt_val, rt_fr, rt_cell, fin2_ap, fin2K_some, opK_some, fin1_ap, op1K_some, mOp2_ap, mOp1_ap, add_ii, sub_ii, neg_i, not_b, lt_ii, le_ii, gt_ii, ge_ii, eq_ii, ne_ii, ix_lst, Sz.ix_tup, ix_scr, omap_some, atI0, atI1, atI2, bl?_bl, tBl_ap, tBlK_some, tNotM_ap, tAndM_ap, tOrM_ap, tTrue_ap, mIf_ap, mAnd_ap, mOr_ap, andK_some, orK_some, mArgs_nil, mArgs_cons, mOwns_nil, mOwns_cons, mList_ap, mTup_ap, mCallB_ap, finL1, finL2, finL3, finL4, finL5, finT2, finT3, vwK_some, vws_nil, vws_cons, opsK_some, finB_ap, len_scr, len_lst, len_tup, abs_i, min_ii, max_ii, int_b, int_i, seqK_nx, seqK_rt, seqK_ex, seqK_bk, seqK_ct, seqK_if, sSeq_ap, sNil_ap, sPass_ap, sBreak_ap, sCont_ap, sRet_ap, sRetN_ap, sIf_ap, sExpr_ap, nxK_some, sAsg_ap, gNm_ap, own_false, own_val, own_cell, own_fr, sPar2_ap, sPar3_ap, par2K_ap, par3K_ap, gVals_nil, gVK_some, gVals_cons, gTu_tup, gTu_lst, gTu_fr, finF_nx, finF_ex, finF_rt, finR_val, finR_fr, finF_if, mCallF_ap, mMake_ap, mMeth_ap, clsOf_obj, mAttr_ap, finA_obj, ite_true', ite_false', ite_T, ite_F, sFor_ap, iVal_ap, finI_lst, finI_fr, finI_tup, decide_eq_true_eq, Bool.not_eq_true', decide_eq_false_iff_not, Nat.reduceAdd, mLm_ap, lmK_cell, isLst_lst, finLm0, finLm1, finLm2, lm3K_lst, lm4K_some, get_end, set_end, is_non, isnot_non, isNon_non, isNon_int, isNon_tup, isNon_obj, eq_bb, Bool.not_true, Bool.not_false, dE, isNon_dP]
      rfl
    | some y =>
      unfold beginL
      dsimp only
      by_cases h1 : x.1 * y.2 < y.1 * x.2
      · have k1 : ∀ ν : Sto, callF fi_l_below 2 [] [.val (dP x), .val (dP y)] [] ν = some (.ok (.val (.bl true)), ν) := fun ν => by rw [below_call ha ha' e, decide_eq_true h1]
        rw [if_pos h1]
        simp only [mVar_ap, slotM_some, List.getElem?_cons_zero, List.getElem?_cons_succ, List.set_cons_zero, List.set_cons_succ, mK_ap, andThen_ok, andThen_if, exThen_ok, exThen_if, vw_val, vw_fr, vw_cell, cellV_lst, cellV_frz, rt_val, rt_fr, rt_cell, fin2_ap, fin2K_some, opK_some, fin1_ap, op1K_some, mOp2_ap, mOp1_ap, add_ii, sub_ii, neg_i, not_b, lt_ii, le_ii, gt_ii, ge_ii, eq_ii, ne_ii, ix_lst, Sz.ix_tup, ix_scr, omap_some, atI0, atI1, atI2, bl?_bl, tBl_ap, tBlK_some, tNotM_ap, tAndM_ap, tOrM_ap, tTrue_ap, mIf_ap, mAnd_ap, mOr_ap, andK_some, orK_some, mArgs_nil, mArgs_cons, mOwns_nil, mOwns_cons, mList_ap, mTup_ap, mCallB_ap, finL1, finL2, finL3, finL4, finL5, finT2, finT3, vwK_some, vws_nil, vws_cons, opsK_some, finB_ap, len_scr, len_lst, len_tup, abs_i, min_ii, max_ii, int_b, int_i, seqK_nx, seqK_rt, seqK_ex, seqK_bk, seqK_ct, seqK_if, sSeq_ap, sNil_ap, sPass_ap, sBreak_ap, sCont_ap, sRet_ap, sRetN_ap, sIf_ap, sExpr_ap, nxK_some, sAsg_ap, gNm_ap, own_false, own_val, own_cell, own_fr, sPar2_ap, sPar3_ap, par2K_ap, par3K_ap, gVals_nil, gVK_some, gVals_cons, gTu_tup, gTu_lst, gTu_fr, finF_nx, finF_ex, finF_rt, finR_val, finR_fr, finF_if, mCallF_ap, mMake_ap, mMeth_ap, clsOf_obj, mAttr_ap, finA_obj, ite_true', ite_false', ite_T, ite_F, sFor_ap, iVal_ap, finI_lst, finI_fr, finI_tup, decide_eq_true_eq, Bool.not_eq_true', decide_eq_false_iff_not, Nat.reduceAdd, mLm_ap, lmK_cell, isLst_lst, finLm0, finLm1, finLm2, lm3K_lst, lm4K_some, get_end, set_end, is_non, isnot_non, isNon_non, isNon_int, isNon_tup, isNon_obj, eq_bb, Bool.not_true, Bool.not_false, dE, isNon_dP, k1]
      · have k1 : ∀ ν : Sto, callF fi_l_below 2 [] [.val (dP x), .val (dP y)] [] ν = some (.ok (.val (.bl false)), ν) := fun ν => by rw [below_call ha ha' e, decide_eq_false h1]
        rw [if_neg h1]
        by_cases h2 : x.1 * y.2 = y.1 * x.2
        · have k2 : ∀ ν : Sto, callF fi_l_same 2 [] [.val (dP x), .val (dP y)] [] ν = some (.ok (.val (.bl true)), ν) := fun ν => by rw [same_call ha ha' e, decide_eq_true h2]
          rw [if_pos h2]
          cases ia <;> simp only [mVar_ap, slotM_some, List.getElem?_cons_zero, List.getElem?_cons_succ, List.set_cons_zero, List.set_cons_succ, mK_ap, andThen_ok, andThen_if, exThen_ok, exThen_if, vw_val, vw_fr, vw_cell, cellV_lst, cellV_frz, rt_val, rt_fr, rt_cell, fin2_ap, fin2K_some, opK_some, fin1_ap, op1K_some, mOp2_ap, mOp1_ap, add_ii, sub_ii, neg_i, not_b, lt_ii, le_ii, gt_ii, ge_ii, eq_ii, ne_ii, ix_lst, Sz.ix_tup, ix_scr, omap_some, atI0, atI1, atI2, bl?_bl, tBl_ap, tBlK_some, tNotM_ap, tAndM_ap, tOrM_ap, tTrue_ap, mIf_ap, mAnd_ap, mOr_ap, andK_some, orK_some, mArgs_nil, mArgs_cons, mOwns_nil, mOwns_cons, mList_ap, mTup_ap, mCallB_ap, finL1, finL2, finL3, finL4, finL5, finT2, finT3, vwK_some, vws_nil, vws_cons, opsK_some, finB_ap, len_scr, len_lst, len_tup, abs_i, min_ii, max_ii, int_b, int_i, seqK_nx, seqK_rt, seqK_ex, seqK_bk, seqK_ct, seqK_if, sSeq_ap, sNil_ap, sPass_ap, sBreak_ap, sCont_ap, sRet_ap, sRetN_ap, sIf_ap, sExpr_ap, nxK_some, sAsg_ap, gNm_ap, own_false, own_val, own_cell, own_fr, sPar2_ap, sPar3_ap, par2K_ap, par3K_ap, gVals_nil, gVK_some, gVals_cons, gTu_tup, gTu_lst, gTu_fr, finF_nx, finF_ex, finF_rt, finR_val, finR_fr, finF_if, mCallF_ap, mMake_ap, mMeth_ap, clsOf_obj, mAttr_ap, finA_obj, ite_true', ite_false', ite_T, ite_F, sFor_ap, iVal_ap, finI_lst, finI_fr, finI_tup, decide_eq_true_eq, Bool.not_eq_true', decide_eq_false_iff_not, Nat.reduceAdd, mLm_ap, lmK_cell, isLst_lst, finLm0, finLm1, finLm2, lm3K_lst, lm4K_some, get_end, set_end, is_non, isnot_non, isNon_non, isNon_int, isNon_tup, isNon_obj, eq_bb, Bool.not_true, Bool.not_false, dE, isNon_dP, k1, k2, Bool.true_and, Bool.false_and]
        · have k2 : ∀ ν : Sto, callF fi_l_same 2 [] [.val (dP x), .val (dP y)] [] ν = some (.ok (.val (.bl false)), ν) := fun ν => by rw [same_call ha ha' e, decide_eq_false h2]
          rw [if_neg h2]
          simp only [mVar_ap, slotM_some, List.getElem?_cons_zero, List.getElem?_cons_succ, List.set_cons_zero, List.set_cons_succ, mK_ap, andThen_ok, andThen_if, exThen_ok, exThen_if, vw_val, vw_fr, vw_cell, cellV_lst, cellV_frz, rt_val, rt_fr, rt_cell, fin2_ap, fin2K_some, opK_some, fin1_ap, op1K_some, mOp2_ap, mOp1_ap, add_ii, sub_ii, neg_i, not_b, lt_ii, le_ii, gt_ii, ge_ii, eq_ii, ne_ii, ix_lst, Sz.ix_tup, ix_scr, omap_some, atI0, atI1, atI2, bl?_bl, tBl_ap, tBlK_some, tNotM_ap, tAndM_ap, tOrM_ap, tTrue_ap, mIf_ap, mAnd_ap, mOr_ap, andK_some, orK_some, mArgs_nil, mArgs_cons, mOwns_nil, mOwns_cons, mList_ap, mTup_ap, mCallB_ap, finL1, finL2, finL3, finL4, finL5, finT2, finT3, vwK_some, vws_nil, vws_cons, opsK_some, finB_ap, len_scr, len_lst, len_tup, abs_i, min_ii, max_ii, int_b, int_i, seqK_nx, seqK_rt, seqK_ex, seqK_bk, seqK_ct, seqK_if, sSeq_ap, sNil_ap, sPass_ap, sBreak_ap, sCont_ap, sRet_ap, sRetN_ap, sIf_ap, sExpr_ap, nxK_some, sAsg_ap, gNm_ap, own_false, own_val, own_cell, own_fr, sPar2_ap, sPar3_ap, par2K_ap, par3K_ap, gVals_nil, gVK_some, gVals_cons, gTu_tup, gTu_lst, gTu_fr, finF_nx, finF_ex, finF_rt, finR_val, finR_fr, finF_if, mCallF_ap, mMake_ap, mMeth_ap, clsOf_obj, mAttr_ap, finA_obj, ite_true', ite_false', ite_T, ite_F, sFor_ap, iVal_ap, finI_lst, finI_fr, finI_tup, decide_eq_true_eq, Bool.not_eq_true', decide_eq_false_iff_not, Nat.reduceAdd, mLm_ap, lmK_cell, isLst_lst, finLm0, finLm1, finLm2, lm3K_lst, lm4K_some, get_end, set_end, is_non, isnot_non, isNon_non, isNon_int, isNon_tup, isNon_obj, eq_bb, Bool.not_true, Bool.not_false, dE, isNon_dP, k1, k2]
theorem cut_hi (hb : FrE m n b) (hb' : FrE m n b') (e : m + n ≤ 134217728) :
    sIf (tOrM (tBl (mOp2 dIs (mVar 4) (mK .non))) (tAndM (tBl (mOp2 dIsNot (mOp2 dIx (mVar 1) (mK (.int 1))) (mK .non))) (tBl (mCallF fi_l_below 2 [] [mOp2 dIx (mVar 1) (mK (.int 1)), mVar 4] [])))) (sSeq (sPar2 4 5 [(false, mOp2 dIx (mVar 1) (mK (.int 1))), (false, mOp2 dIx (mVar 1) (mK (.int 3)))]) sNil) (sSeq (sIf (tAndM (tBl (mOp2 dIsNot (mOp2 dIx (mVar 1) (mK (.int 1))) (mK .non))) (tBl (mCallF fi_l_same 2 [] [mVar 4, mOp2 dIx (mVar 1) (mK (.int 1))] []))) (sSeq (sAsg (gNm 5 false) (mAnd (mVar 5) (mOp2 dIx (mVar 1) (mK (.int 3))))) sNil) sNil) sNil)
      [some (.val (T4 a b ia ib)), some (.val (T4 a' b' ia' ib')), s2, s3, some (.val (dE b)), some (.val (.bl ib))] μ = some (.nx, [some (.val (T4 a b ia ib)), some (.val (T4 a' b' ia' ib')), s2, s3, some (.val (dE (endL b ib b' ib').1)), some (.val (.bl (endL b ib b' ib').2))], μ) := by
  cases b with
  | none =>
    simp only [mVar_ap, slotM_some, List.getElem?_cons_zero, List.getElem?_cons_succ, List.set_cons_zero, List.set_cons_succ, mK_ap, andThen_ok, andThen_if, exThen_ok, exThen_if, vw_val, vw_fr, vw_cell, cellV_lst, cellV_frz, rt_val, rt_fr, rt_cell, fin2_ap, fin2K_some, opK_some, fin1_ap, op1K_some, mOp2_ap, mOp1_ap, add_ii, sub_ii, neg_i, not_b, lt_ii, le_ii, gt_ii, ge_ii, eq_ii, ne_ii, ix_lst, Sz.ix_tup, ix_scr, omap_some, atI0, atI1, atI2, bl?_bl, tBl_ap, tBlK_some, tNotM_ap, tAndM_ap, tOrM_ap, tTrue_ap, mIf_ap, mAnd_ap, mOr_ap, andK_some, orK_some, mArgs_nil, mArgs_cons, mOwns_nil, mOwns_cons, mList_ap, mTup_ap, mCallB_ap, finL1, finL2, finL3, finL4, finL5, finT2, finT3, vwK_some, vws_nil, vws_cons, opsK_some, finB_ap, len_scr, len_lst, len_tup, abs_i, min_ii, max_ii, int_b, int_i, seqK_nx, seqK_rt, seqK_ex, seqK_bk, seqK_ct, seqK_if, sSeq_ap, sNil_ap, sPass_ap, sBreak_ap, sCont_ap, sRet_ap, sRetN_ap, sIf_ap, sExpr_ap, nxK_some, sAsg_ap, gNm_ap, own_false, own_val, own_cell, own_fr, sPar2_ap, sPar3_ap, par2K_ap, par3K_ap, gVals_nil, gVK_some, gVals_cons, gTu_tup, gTu_lst, gTu_fr, finF_nx, finF_ex, finF_rt, finR_val, finR_fr, finF_if, mCallF_ap, mMake_ap, mMeth_ap, clsOf_obj, mAttr_ap, finA_obj, ite_true', ite_false', ite_T, ite_F, sFor_ap, iVal_ap, finI_lst, finI_fr, finI_tup, decide_eq_true_eq, Bool.not_eq_true', decide_eq_false_iff_not, Nat.reduceAdd, mLm_ap, lmK_cell, isLst_lst, finLm0, finLm1, finLm2, lm3K_lst, lm4K_some, get_end, set_end, is_non, isnot_non, isNon_non, isNon_int, isNon_tup, isNon_obj, eq_bb, Bool.not_true, Bool.not_false, dE, i30]
    rfl
  | some x =>
    cases b' with
    | none =>
      simp only [mVar_ap, slotM_some, List.getElem?_cons_zero, List.getElem?_cons_succ, List.set_cons_zero, List.set_cons_succ, mK_ap, andThen_ok, andThen_if, exThen_ok, exThen_if, vw_val, vw_fr, vw_cell, cellV_lst, cellV_frz, rt_val, rt_fr, rt_cell, fin2_ap, fin2K_some, opK_some, fin1_ap, op1K_some, mOp2_ap, mOp1_ap, add_ii, sub_ii, neg_i, not_b, lt_ii, le_ii, gt_ii, ge_ii, eq_ii, ne_ii, ix_lst, Sz.ix_tup, ix_scr, omap_some, atI0, atI1, atI2, bl?_bl, tBl_ap, tBlK_some, tNotM_ap, tAndM_ap, tOrM_ap, tTrue_ap, mIf_ap, mAnd_ap, mOr_ap, andK_some, orK_some, mArgs_nil, mArgs_cons, mOwns_nil, mOwns_cons, mList_ap, mTup_ap, mCallB_ap, finL1, finL2, finL3, finL4, finL5, finT2, finT3, vwK_some, vws_nil, vws_cons, opsK_some, finB_ap, len_scr, len_lst, len_tup, abs_i, min_ii, max_ii, int_b, int_i, seqK_nx, seqK_rt, seqK_ex, seqK_bk, seqK_ct, seqK_if, sSeq_ap, sNil_ap, sPass_ap, sBreak_ap, sCont_ap, sRet_ap, sRetN_ap, sIf_ap, sExpr_ap, nxK_some, sAsg_ap, gNm_ap, own_false, own_val, own_cell, own_fr, sPar2_ap, sPar3_ap, par2K_ap, par3K_ap, gVals_nil, gVK_some, gVals_cons, gTu_tup, gTu_lst, gTu_fr, finF_nx, finF_ex, finF_rt, finR_val, finR_fr, finF_if, mCallF_ap, mMake_ap, mMeth_ap, clsOf_obj, mAttr_ap, finA_obj, ite_true', ite_false', ite_T, ite_F, sFor_ap, iVal_ap, finI_lst, finI_fr, finI_tup, decide_eq_true_eq, Bool.not_eq_true', decide_eq_false_iff_not, Nat.reduceAdd, mLm_ap, lmK_cell, isLst_lst, finLm0, finLm1, finLm2, lm3K_lst, lm4K_some, get_end, set_end, is_non, isnot_non, isNon_non, isNon_int, isNon_tup, isNon_obj, eq_bb, Bool.not_true, Bool.not_false, dE, isNon_dP, i30]
      rfl
    | some y =>
      unfold endL
      dsimp only
      by_cases h1 : y.1 * x.2 < x.1 * y.2
      · have k1 : ∀ ν : Sto, callF fi_l_below 2 [] [.val (dP y), .val (dP x)] [] ν = some (.ok (.val (.bl true)), ν) := fun ν => by rw [below_call hb' hb e, decide_eq_true h1]
        rw [if_pos h1]
        simp only [mVar_ap, slotM_some, List.getElem?_cons_zero, List.getElem?_cons_succ, List.set_cons_zero, List.set_cons_succ, mK_ap, andThen_ok, andThen_if, exThen_ok, exThen_if, vw_val, vw_fr, vw_cell, cellV_lst, cellV_frz, rt_val, rt_fr, rt_cell, fin2_ap, fin2K_some, opK_some, fin1_ap, op1K_some, mOp2_ap, mOp1_ap, add_ii, sub_ii, neg_i, not_b, lt_ii, le_ii, gt_ii, ge_ii, eq_ii, ne_ii, ix_lst, Sz.ix_tup, ix_scr, omap_some, atI0, atI1, atI2, bl?_bl, tBl_ap, tBlK_some, tNotM_ap, tAndM_ap, tOrM_ap, tTrue_ap, mIf_ap, mAnd_ap, mOr_ap, andK_some, orK_some, mArgs_nil, mArgs_cons, mOwns_nil, mOwns_cons, mList_ap, mTup_ap, mCallB_ap, finL1, finL2, finL3, finL4, finL5, finT2, finT3, vwK_some, vws_nil, vws_cons, opsK_some, finB_ap, len_scr, len_lst, len_tup, abs_i, min_ii, max_ii, int_b, int_i, seqK_nx, seqK_rt, seqK_ex, seqK_bk, seqK_ct, seqK_if, sSeq_ap, sNil_ap, sPass_ap, sBreak_ap, sCont_ap, sRet_ap, sRetN_ap, sIf_ap, sExpr_ap, nxK_some, sAsg_ap, gNm_ap, own_false, own_val, own_cell, own_fr, sPar2_ap, sPar3_ap, par2K_ap, par3K_ap, gVals_nil, gVK_some, gVals_cons, gTu_tup, gTu_lst, gTu_fr, finF_nx, finF_ex, finF_rt, finR_val, finR_fr, finF_if, mCallF_ap, mMake_ap, mMeth_ap, clsOf_obj, mAttr_ap, finA_obj, ite_true', ite_false', ite_T, ite_F, sFor_ap, iVal_ap, finI_lst, finI_fr, finI_tup, decide_eq_true_eq, Bool.not_eq_true', decide_eq_false_iff_not, Nat.reduceAdd, mLm_ap, lmK_cell, isLst_lst, finLm0, finLm1, finLm2, lm3K_lst, lm4K_some, get_end, set_end, is_non, isnot_non, isNon_non, isNon_int, isNon_tup, isNon_obj, eq_bb, Bool.not_true, Bool.not_false, dE, isNon_dP, i30, k1]
      · have k1 : ∀ ν : Sto, callF fi_l_below 2 [] [.val (dP y), .val (dP x)] [] ν = some (.ok (.val (.bl false)), ν) := fun ν => by rw [below_call hb' hb e, decide_eq_false h1]
        rw [if_neg h1]
        by_cases h2 : x.1 * y.2 = y.1 * x.2
        · have k2 : ∀ ν : Sto, callF fi_l_same 2 [] [.val (dP x), .val (dP y)] [] ν = some (.ok (.val (.bl true)), ν) := fun ν => by rw [same_call hb hb' e, decide_eq_true h2]
          rw [if_pos h2]
          cases ib <;> simp only [mVar_ap, slotM_some, List.getElem?_cons_zero, List.getElem?_cons_succ, List.set_cons_zero, List.set_cons_succ, mK_ap, andThen_ok, andThen_if, exThen_ok, exThen_if, vw_val, vw_fr, vw_cell, cellV_lst, cellV_frz, rt_val, rt_fr, rt_cell, fin2_ap, fin2K_some, opK_some, fin1_ap, op1K_some, mOp2_ap, mOp1_ap, add_ii, sub_ii, neg_i, not_b, lt_ii, le_ii, gt_ii, ge_ii, eq_ii, ne_ii, ix_lst, Sz.ix_tup, ix_scr, omap_some, atI0, atI1, atI2, bl?_bl, tBl_ap, tBlK_some, tNotM_ap, tAndM_ap, tOrM_ap, tTrue_ap, mIf_ap, mAnd_ap, mOr_ap, andK_some, orK_some, mArgs_nil, mArgs_cons, mOwns_nil, mOwns_cons, mList_ap, mTup_ap, mCallB_ap, finL1, finL2, finL3, finL4, finL5, finT2, finT3, vwK_some, vws_nil, vws_cons, opsK_some, finB_ap, len_scr, len_lst, len_tup, abs_i, min_ii, max_ii, int_b, int_i, seqK_nx, seqK_rt, seqK_ex, seqK_bk, seqK_ct, seqK_if, sSeq_ap, sNil_ap, sPass_ap, sBreak_ap, sCont_ap, sRet_ap, sRetN_ap, sIf_ap, sExpr_ap, nxK_some, sAsg_ap, gNm_ap, own_false, own_val, own_cell, own_fr, sPar2_ap, sPar3_ap, par2K_ap, par3K_ap, gVals_nil, gVK_some, gVals_cons, gTu_tup, gTu_lst, gTu_fr, finF_nx, finF_ex, finF_rt, finR_val, finR_fr, finF_if, mCallF_ap, mMake_ap, mMeth_ap, clsOf_obj, mAttr_ap, finA_obj, ite_true', ite_false', ite_T, ite_F, sFor_ap, iVal_ap, finI_lst, finI_fr, finI_tup, decide_eq_true_eq, Bool.not_eq_true', decide_eq_false_iff_not, Nat.reduceAdd, mLm_ap, lmK_cell, isLst_lst, finLm0, finLm1, finLm2, lm3K_lst, lm4K_some, get_end, set_end, is_non, isnot_non, isNon_non, isNon_int, isNon_tup, isNon_obj, eq_bb, Bool.not_true, Bool.not_false, dE, isNon_dP, i30, k1, k2, Bool.true_and, Bool.false_and]
        · have k2 : ∀ ν : Sto, callF fi_l_same 2 [] [.val (dP x), .val (dP y)] [] ν = some (.ok (.val (.bl false)), ν) := fun ν => by rw [same_call hb hb' e, decide_eq_false h2]
          rw [if_neg h2]
          simp only [mVar_ap, slotM_some, List.getElem?_cons_zero, List.getElem?_cons_succ, List.set_cons_zero, List.set_cons_succ, mK_ap, andThen_ok, andThen_if, exThen_ok, exThen_if, vw_val, vw_fr, vw_cell, cellV_lst, cellV_frz, rt_val, rt_fr, rt_cell, fin2_ap, fin2K_some, opK_some, fin1_ap, op1K_some, mOp2_ap, mOp1_ap, add_ii, sub_ii, neg_i, not_b, lt_ii, le_ii, gt_ii, ge_ii, eq_ii, ne_ii, ix_lst, Sz.ix_tup, ix_scr, omap_some, atI0, atI1, atI2, bl?_bl, tBl_ap, tBlK_some, tNotM_ap, tAndM_ap, tOrM_ap, tTrue_ap, mIf_ap, mAnd_ap, mOr_ap, andK_some, orK_some, mArgs_nil, mArgs_cons, mOwns_nil, mOwns_cons, mList_ap, mTup_ap, mCallB_ap, finL1, finL2, finL3, finL4, finL5, finT2, finT3, vwK_some, vws_nil, vws_cons, opsK_some, finB_ap, len_scr, len_lst, len_tup, abs_i, min_ii, max_ii, int_b, int_i, seqK_nx, seqK_rt, seqK_ex, seqK_bk, seqK_ct, seqK_if, sSeq_ap, sNil_ap, sPass_ap, sBreak_ap, sCont_ap, sRet_ap, sRetN_ap, sIf_ap, sExpr_ap, nxK_some, sAsg_ap, gNm_ap, own_false, own_val, own_cell, own_fr, sPar2_ap, sPar3_ap, par2K_ap, par3K_ap, gVals_nil, gVK_some, gVals_cons, gTu_tup, gTu_lst, gTu_fr, finF_nx, finF_ex, finF_rt, finR_val, finR_fr, finF_if, mCallF_ap, mMake_ap, mMeth_ap, clsOf_obj, mAttr_ap, finA_obj, ite_true', ite_false', ite_T, ite_F, sFor_ap, iVal_ap, finI_lst, finI_fr, finI_tup, decide_eq_true_eq, Bool.not_eq_true', decide_eq_false_iff_not, Nat.reduceAdd, mLm_ap, lmK_cell, isLst_lst, finLm0, finLm1, finLm2, lm3K_lst, lm4K_some, get_end, set_end, is_non, isnot_non, isNon_non, isNon_int, isNon_tup, isNon_obj, eq_bb, Bool.not_true, Bool.not_false, dE, isNon_dP, i30, k1, k2]
theorem beginL_fr (ha : FrE m n a) (ha' : FrE m n a') : FrE m n (beginL a ia a' ia').1 := by
  cases a with
  | none => exact ha'
  | some x =>
    cases a' with
    | none => exact ha
    | some y =>
      unfold beginL
      dsimp only
      split
      · exact ha'
      · split <;> exact ha
theorem endL_fr (ha : FrE m n a) (ha' : FrE m n a') : FrE m n (endL a ia a' ia').1 := by
  cases a with
  | none => exact ha'
  | some x =>
    cases a' with
    | none => exact ha
    | some y =>
      unfold endL
      dsimp only
      split
      · exact ha'
      · split <;> exact ha
/-- what the two have in common, by the law -/
def cutD' (a b : Option (Int × Int)) (ia ib : Bool) (a' b' : Option (Int × Int)) (ia' ib' : Bool) : D :=
  if someB (beginL a ia a' ia').1 (endL b ib b' ib').1 (beginL a ia a' ia').2 (endL b ib b' ib').2 = true then T4 (beginL a ia a' ia').1 (endL b ib b' ib').1 (beginL a ia a' ia').2 (endL b ib b' ib').2 else .non
theorem cut_call (ha : FrE m n a) (hb : FrE m n b) (ha' : FrE m n a') (hb' : FrE m n b') (e : m + n ≤ 134217728) (μ : Sto) :
    callF fi_l_cut 2 [] [.val (T4 a b ia ib), .val (T4 a' b' ia' ib')] [] μ = some (.ok (.val (cutD' a b ia ib a' b' ia' ib')), μ) := by
  rw [show callF fi_l_cut 2 [] [.val (T4 a b ia ib), .val (T4 a' b' ia' ib')] [] μ = fi_l_cut.sem [.val (T4 a b ia ib), .val (T4 a' b' ia' ib')] μ from callF_eq rfl rfl rfl]
  rw [show fi_l_cut.sem [.val (T4 a b ia ib), .val (T4 a' b' ia' ib')] μ = finF μ.length (c_l_cut [some (.val (T4 a b ia ib)), some (.val (T4 a' b' ia' ib')), none, none, none, none] μ) from rfl]
  unfold c_l_cut
  have p1 : sPar2 2 3 [(false, mOp2 dIx (mVar 0) (mK (.int 0))), (false, mOp2 dIx (mVar 0) (mK (.int 2)))] [some (.val (T4 a b ia ib)), some (.val (T4 a' b' ia' ib')), none, none, none, none] μ = some (.nx, [some (.val (T4 a b ia ib)), some (.val (T4 a' b' ia' ib')), some (.val (dE a)), some (.val (.bl ia)), none, none], μ) := by simp only [mVar_ap, slotM_some, List.getElem?_cons_zero, List.getElem?_cons_succ, List.set_cons_zero, List.set_cons_succ, mK_ap, andThen_ok, andThen_if, exThen_ok, exThen_if, vw_val, vw_fr, vw_cell, cellV_lst, cellV_frz, rt_val, rt_fr, rt_cell, fin2_ap, fin2K_some, opK_some, fin1_ap, op1K_some, mOp2_ap, mOp1_ap, add_ii, sub_ii, neg_i, not_b, lt_ii, le_ii, gt_ii, ge_ii, eq_ii, ne_ii, ix_lst, Sz.ix_tup, ix_scr, omap_some, atI0, atI1, atI2, bl?_bl, tBl_ap, tBlK_some, tNotM_ap, tAndM_ap, tOrM_ap, tTrue_ap, mIf_ap, mAnd_ap, mOr_ap, andK_some, orK_some, mArgs_nil, mArgs_cons, mOwns_nil, mOwns_cons, mList_ap, mTup_ap, mCallB_ap, finL1, finL2, finL3, finL4, finL5, finT2, finT3, vwK_some, vws_nil, vws_cons, opsK_some, finB_ap, len_scr, len_lst, len_tup, abs_i, min_ii, max_ii, int_b, int_i, seqK_nx, seqK_rt, seqK_ex, seqK_bk, seqK_ct, seqK_if, sSeq_ap, sNil_ap, sPass_ap, sBreak_ap, sCont_ap, sRet_ap, sRetN_ap, sIf_ap, sExpr_ap, nxK_some, sAsg_ap, gNm_ap, own_false, own_val, own_cell, own_fr, sPar2_ap, sPar3_ap, par2K_ap, par3K_ap, gVals_nil, gVK_some, gVals_cons, gTu_tup, gTu_lst, gTu_fr, finF_nx, finF_ex, finF_rt, finR_val, finR_fr, finF_if, mCallF_ap, mMake_ap, mMeth_ap, clsOf_obj, mAttr_ap, finA_obj, ite_true', ite_false', ite_T, ite_F, sFor_ap, iVal_ap, finI_lst, finI_fr, finI_tup, decide_eq_true_eq, Bool.not_eq_true', decide_eq_false_iff_not, Nat.reduceAdd, mLm_ap, lmK_cell, isLst_lst, finLm0, finLm1, finLm2, lm3K_lst, lm4K_some, get_end, set_end, is_non, isnot_non, isNon_non, isNon_int, isNon_tup, isNon_obj, eq_bb, Bool.not_true, Bool.not_false]
  have p2 : ∀ s2 s3 : Option S, sPar2 4 5 [(false, mOp2 dIx (mVar 0) (mK (.int 1))), (false, mOp2 dIx (mVar 0) (mK (.int 3)))] [some (.val (T4 a b ia ib)), some (.val (T4 a' b' ia' ib')), s2, s3, none, none] μ = some (.nx, [some (.val (T4 a b ia ib)), some (.val (T4 a' b' ia' ib')), s2, s3, some (.val (dE b)), some (.val (.bl ib))], μ) := fun s2 s3 => by simp only [mVar_ap, slotM_some, List.getElem?_cons_zero, List.getElem?_cons_succ, List.set_cons_zero, List.set_cons_succ, mK_ap, andThen_ok, andThen_if, exThen_ok, exThen_if, vw_val, vw_fr, vw_cell, cellV_lst, cellV_frz, rt_val, rt_fr, rt_cell, fin2_ap, fin2K_some, opK_some, fin1_ap, op1K_some, mOp2_ap, mOp1_ap, add_ii, sub_ii, neg_i, not_b, lt_ii, le_ii, gt_ii, ge_ii, eq_ii, ne_ii, ix_lst, Sz.ix_tup, ix_scr, omap_some, atI0, atI1, atI2, bl?_bl, tBl_ap, tBlK_some, tNotM_ap, tAndM_ap, tOrM_ap, tTrue_ap, mIf_ap, mAnd_ap, mOr_ap, andK_some, orK_some, mArgs_nil, mArgs_cons, mOwns_nil, mOwns_cons, mList_ap, mTup_ap, mCallB_ap, finL1, finL2, finL3, finL4, finL5, finT2, finT3, vwK_some, vws_nil, vws_cons, opsK_some, finB_ap, len_scr, len_lst, len_tup, abs_i, min_ii, max_ii, int_b, int_i, seqK_nx, seqK_rt, seqK_ex, seqK_bk, seqK_ct, seqK_if, sSeq_ap, sNil_ap, sPass_ap, sBreak_ap, sCont_ap, sRet_ap, sRetN_ap, sIf_ap, sExpr_ap, nxK_some, sAsg_ap, gNm_ap, own_false, own_val, own_cell, own_fr, sPar2_ap, sPar3_ap, par2K_ap, par3K_ap, gVals_nil, gVK_some, gVals_cons, gTu_tup, gTu_lst, gTu_fr, finF_nx, finF_ex, finF_rt, finR_val, finR_fr, finF_if, mCallF_ap, mMake_ap, mMeth_ap, clsOf_obj, mAttr_ap, finA_obj, ite_true', ite_false', ite_T, ite_F, sFor_ap, iVal_ap, finI_lst, finI_fr, finI_tup, decide_eq_true_eq, Bool.not_eq_true', decide_eq_false_iff_not, Nat.reduceAdd, mLm_ap, lmK_cell, isLst_lst, finLm0, finLm1, finLm2, lm3K_lst, lm4K_some, get_end, set_end, is_non, isnot_non, isNon_non, isNon_int, isNon_tup, isNon_obj, eq_bb, Bool.not_true, Bool.not_false, i30]
  rw [sSeq_ap, p1, seqK_nx, sSeq_ap, cut_lo ha ha' e, seqK_nx, sSeq_ap, p2, seqK_nx, sSeq_ap, cut_hi hb hb' e, seqK_nx]
  have k := some_call (ia := (beginL a ia a' ia').2) (ib := (endL b ib b' ib').2) (μ := μ) (beginL_fr (ia := ia) (ia' := ia') ha ha') (endL_fr (ia := ib) (ia' := ib') hb hb') e
  unfold cutD'
  cases hB : someB (beginL a ia a' ia').1 (endL b ib b' ib').1 (beginL a ia a' ia').2 (endL b ib b' ib').2 with
  | true =>
    rw [hB] at k
    simp only [mVar_ap, slotM_some, List.getElem?_cons_zero, List.getElem?_cons_succ, List.set_cons_zero, List.set_cons_succ, mK_ap, andThen_ok, andThen_if, exThen_ok, exThen_if, vw_val, vw_fr, vw_cell, cellV_lst, cellV_frz, rt_val, rt_fr, rt_cell, fin2_ap, fin2K_some, opK_some, fin1_ap, op1K_some, mOp2_ap, mOp1_ap, add_ii, sub_ii, neg_i, not_b, lt_ii, le_ii, gt_ii, ge_ii, eq_ii, ne_ii, ix_lst, Sz.ix_tup, ix_scr, omap_some, atI0, atI1, atI2, bl?_bl, tBl_ap, tBlK_some, tNotM_ap, tAndM_ap, tOrM_ap, tTrue_ap, mIf_ap, mAnd_ap, mOr_ap, andK_some, orK_some, mArgs_nil, mArgs_cons, mOwns_nil, mOwns_cons, mList_ap, mTup_ap, mCallB_ap, finL1, finL2, finL3, finL4, finL5, finT2, finT3, vwK_some, vws_nil, vws_cons, opsK_some, finB_ap, len_scr, len_lst, len_tup, abs_i, min_ii, max_ii, int_b, int_i, seqK_nx, seqK_rt, seqK_ex, seqK_bk, seqK_ct, seqK_if, sSeq_ap, sNil_ap, sPass_ap, sBreak_ap, sCont_ap, sRet_ap, sRetN_ap, sIf_ap, sExpr_ap, nxK_some, sAsg_ap, gNm_ap, own_false, own_val, own_cell, own_fr, sPar2_ap, sPar3_ap, par2K_ap, par3K_ap, gVals_nil, gVK_some, gVals_cons, gTu_tup, gTu_lst, gTu_fr, finF_nx, finF_ex, finF_rt, finR_val, finR_fr, finF_if, mCallF_ap, mMake_ap, mMeth_ap, clsOf_obj, mAttr_ap, finA_obj, ite_true', ite_false', ite_T, ite_F, sFor_ap, iVal_ap, finI_lst, finI_fr, finI_tup, decide_eq_true_eq, Bool.not_eq_true', decide_eq_false_iff_not, Nat.reduceAdd, mLm_ap, lmK_cell, isLst_lst, finLm0, finLm1, finLm2, lm3K_lst, lm4K_some, get_end, set_end, is_non, isnot_non, isNon_non, isNon_int, isNon_tup, isNon_obj, eq_bb, Bool.not_true, Bool.not_false, k, finT4]
    rw [List.take_length]
  | false =>
    rw [hB] at k
    simp only [mVar_ap, slotM_some, List.getElem?_cons_zero, List.getElem?_cons_succ, List.set_cons_zero, List.set_cons_succ, mK_ap, andThen_ok, andThen_if, exThen_ok, exThen_if, vw_val, vw_fr, vw_cell, cellV_lst, cellV_frz, rt_val, rt_fr, rt_cell, fin2_ap, fin2K_some, opK_some, fin1_ap, op1K_some, mOp2_ap, mOp1_ap, add_ii, sub_ii, neg_i, not_b, lt_ii, le_ii, gt_ii, ge_ii, eq_ii, ne_ii, ix_lst, Sz.ix_tup, ix_scr, omap_some, atI0, atI1, atI2, bl?_bl, tBl_ap, tBlK_some, tNotM_ap, tAndM_ap, tOrM_ap, tTrue_ap, mIf_ap, mAnd_ap, mOr_ap, andK_some, orK_some, mArgs_nil, mArgs_cons, mOwns_nil, mOwns_cons, mList_ap, mTup_ap, mCallB_ap, finL1, finL2, finL3, finL4, finL5, finT2, finT3, vwK_some, vws_nil, vws_cons, opsK_some, finB_ap, len_scr, len_lst, len_tup, abs_i, min_ii, max_ii, int_b, int_i, seqK_nx, seqK_rt, seqK_ex, seqK_bk, seqK_ct, seqK_if, sSeq_ap, sNil_ap, sPass_ap, sBreak_ap, sCont_ap, sRet_ap, sRetN_ap, sIf_ap, sExpr_ap, nxK_some, sAsg_ap, gNm_ap, own_false, own_val, own_cell, own_fr, sPar2_ap, sPar3_ap, par2K_ap, par3K_ap, gVals_nil, gVK_some, gVals_cons, gTu_tup, gTu_lst, gTu_fr, finF_nx, finF_ex, finF_rt, finR_val, finR_fr, finF_if, mCallF_ap, mMake_ap, mMeth_ap, clsOf_obj, mAttr_ap, finA_obj, ite_true', ite_false', ite_T, ite_F, sFor_ap, iVal_ap, finI_lst, finI_fr, finI_tup, decide_eq_true_eq, Bool.not_eq_true', decide_eq_false_iff_not, Nat.reduceAdd, mLm_ap, lmK_cell, isLst_lst, finLm0, finLm1, finLm2, lm3K_lst, lm4K_some, get_end, set_end, is_non, isnot_non, isNon_non, isNon_int, isNon_tup, isNon_obj, eq_bb, Bool.not_true, Bool.not_false, k, finT4]
    rw [List.take_length]
end
section
variable {a b a' b' : Option (Int × Int)} {ia ib ia' ib' : Bool} {n : Nat} {da db da' db' : D}
abbrev So (a b : Option (Int × Int)) (da db : D) (ia ib : Bool) : D := Str4 da db (a.isSome && ia) (b.isSome && ib)
theorem fld_low {μ : Sto} {a b c d : D} : fldK μ [a, b, c, d] (fldIx tFls 1 "low") = some (.ok (.val a), μ) := rfl
theorem fld_high {μ : Sto} {a b c d : D} : fldK μ [a, b, c, d] (fldIx tFls 1 "high") = some (.ok (.val b), μ) := rfl
theorem fld_low_in {μ : Sto} {a b c d : D} : fldK μ [a, b, c, d] (fldIx tFls 1 "low_in") = some (.ok (.val c), μ) := rfl
theorem fld_high_in {μ : Sto} {a b c d : D} : fldK μ [a, b, c, d] (fldIx tFls 1 "high_in") = some (.ok (.val d), μ) := rfl
theorem later_call (ha : ObE n a da) (ha' : ObE n a' da') (hn : n ≤ 9000) : ∃ d, (∀ μ : Sto, callF fi_later_begin 2 [] [.val (So a b da db ia ib), .val (So a' b' da' db' ia' ib')] [] μ = some (.ok (.val (.tup [d, .bl ((beginL a ia a' ia').1.isSome && (beginL a ia a' ia').2)])), μ)) ∧ ObE n (beginL a ia a' ia').1 d := by
  have st : ∀ μ : Sto, callF fi_later_begin 2 [] [.val (So a b da db ia ib), .val (So a' b' da' db' ia' ib')] [] μ = finF μ.length (c_later_begin [some (.val (So a b da db ia ib)), some (.val (So a' b' da' db' ia' ib'))] μ) := fun μ =>
    (show callF fi_later_begin 2 [] [.val (So a b da db ia ib), .val (So a' b' da' db' ia' ib')] [] μ = fi_later_begin.sem [.val (So a b da db ia ib), .val (So a' b' da' db' ia' ib')] μ from callF_eq rfl rfl rfl).trans rfl
  cases a with
  | none =>
    cases ha
    refine ⟨da', fun μ => ?_, ha'⟩
    rw [st]
    unfold c_later_begin
    simp only [mVar_ap, slotM_some, List.getElem?_cons_zero, List.getElem?_cons_succ, List.set_cons_zero, List.set_cons_succ, mK_ap, andThen_ok, andThen_if, exThen_ok, exThen_if, vw_val, vw_fr, vw_cell, cellV_lst, cellV_frz, rt_val, rt_fr, rt_cell, fin2_ap, fin2K_some, opK_some, fin1_ap, op1K_some, mOp2_ap, mOp1_ap, add_ii, sub_ii, neg_i, not_b, lt_ii, le_ii, gt_ii, ge_ii, eq_ii, ne_ii, ix_lst, Sz.ix_tup, ix_scr, omap_some, atI0, atI1, atI2, bl?_bl, tBl_ap, tBlK_some, tNotM_ap, tAndM_ap, tOrM_ap, tTrue_ap, mIf_ap, mAnd_ap, mOr_ap, andK_some, orK_some, mArgs_nil, mArgs_cons, mOwns_nil, mOwns_cons, mList_ap, mTup_ap, mCallB_ap, finL1, finL2, finL3, finL4, finL5, finT2, finT3, vwK_some, vws_nil, vws_cons, opsK_some, finB_ap, len_scr, len_lst, len_tup, abs_i, min_ii, max_ii, int_b, int_i, seqK_nx, seqK_rt, seqK_ex, seqK_bk, seqK_ct, seqK_if, sSeq_ap, sNil_ap, sPass_ap, sBreak_ap, sCont_ap, sRet_ap, sRetN_ap, sIf_ap, sExpr_ap, nxK_some, sAsg_ap, gNm_ap, own_false, own_val, own_cell, own_fr, sPar2_ap, sPar3_ap, par2K_ap, par3K_ap, gVals_nil, gVK_some, gVals_cons, gTu_tup, gTu_lst, gTu_fr, finF_nx, finF_ex, finF_rt, finR_val, finR_fr, finF_if, mCallF_ap, mMake_ap, mMeth_ap, clsOf_obj, mAttr_ap, finA_obj, ite_true', ite_false', ite_T, ite_F, sFor_ap, iVal_ap, finI_lst, finI_fr, finI_tup, decide_eq_true_eq, Bool.not_eq_true', decide_eq_false_iff_not, Nat.reduceAdd, mLm_ap, lmK_cell, isLst_lst, finLm0, finLm1, finLm2, lm3K_lst, lm4K_some, get_end, set_end, is_non, isnot_non, isNon_non, isNon_int, isNon_tup, isNon_obj, eq_bb, Bool.not_true, Bool.not_false, fld_low, fld_low_in]
    rw [List.take_length]
    rfl
  | some x =>
    obtain ⟨t, u, rfl, i1, p1⟩ := ha
    cases a' with
    | none =>
      cases ha'
      refine ⟨Ob t u, fun μ => ?_, t, u, rfl, i1, p1⟩
      rw [st]
      unfold c_later_begin
      simp only [mVar_ap, slotM_some, List.getElem?_cons_zero, List.getElem?_cons_succ, List.set_cons_zero, List.set_cons_succ, mK_ap, andThen_ok, andThen_if, exThen_ok, exThen_if, vw_val, vw_fr, vw_cell, cellV_lst, cellV_frz, rt_val, rt_fr, rt_cell, fin2_ap, fin2K_some, opK_some, fin1_ap, op1K_some, mOp2_ap, mOp1_ap, add_ii, sub_ii, neg_i, not_b, lt_ii, le_ii, gt_ii, ge_ii, eq_ii, ne_ii, ix_lst, Sz.ix_tup, ix_scr, omap_some, atI0, atI1, atI2, bl?_bl, tBl_ap, tBlK_some, tNotM_ap, tAndM_ap, tOrM_ap, tTrue_ap, mIf_ap, mAnd_ap, mOr_ap, andK_some, orK_some, mArgs_nil, mArgs_cons, mOwns_nil, mOwns_cons, mList_ap, mTup_ap, mCallB_ap, finL1, finL2, finL3, finL4, finL5, finT2, finT3, vwK_some, vws_nil, vws_cons, opsK_some, finB_ap, len_scr, len_lst, len_tup, abs_i, min_ii, max_ii, int_b, int_i, seqK_nx, seqK_rt, seqK_ex, seqK_bk, seqK_ct, seqK_if, sSeq_ap, sNil_ap, sPass_ap, sBreak_ap, sCont_ap, sRet_ap, sRetN_ap, sIf_ap, sExpr_ap, nxK_some, sAsg_ap, gNm_ap, own_false, own_val, own_cell, own_fr, sPar2_ap, sPar3_ap, par2K_ap, par3K_ap, gVals_nil, gVK_some, gVals_cons, gTu_tup, gTu_lst, gTu_fr, finF_nx, finF_ex, finF_rt, finR_val, finR_fr, finF_if, mCallF_ap, mMake_ap, mMeth_ap, clsOf_obj, mAttr_ap, finA_obj, ite_true', ite_false', ite_T, ite_F, sFor_ap, iVal_ap, finI_lst, finI_fr, finI_tup, decide_eq_true_eq, Bool.not_eq_true', decide_eq_false_iff_not, Nat.reduceAdd, mLm_ap, lmK_cell, isLst_lst, finLm0, finLm1, finLm2, lm3K_lst, lm4K_some, get_end, set_end, is_non, isnot_non, isNon_non, isNon_int, isNon_tup, isNon_obj, eq_bb, Bool.not_true, Bool.not_false, fld_low, fld_low_in]
      rw [List.take_length]
      rfl
    | some y =>
      obtain ⟨t', u', rfl, i2, p2⟩ := ha'
      unfold beginL
      dsimp only
      have k2 := own_eq i1 i2 p1 p2
      by_cases h1 : x.1 * y.2 < y.1 * x.2
      · have k1 : ∀ ν : Sto, fi_Measure_is_below.sem [.val (Ob t u), .val (Ob t' u'), .val (.bl false)] ν = some (.ok (.val (.bl true)), ν) := fun ν => by rw [below_sem i1 i2 p1 p2 hn, decide_eq_true h1]; rfl
        rw [if_pos h1]
        refine ⟨Ob t' u', fun μ => ?_, t', u', rfl, i2, p2⟩
        rw [st]
        unfold c_later_begin
        simp only [mVar_ap, slotM_some, List.getElem?_cons_zero, List.getElem?_cons_succ, List.set_cons_zero, List.set_cons_succ, mK_ap, andThen_ok, andThen_if, exThen_ok, exThen_if, vw_val, vw_fr, vw_cell, cellV_lst, cellV_frz, rt_val, rt_fr, rt_cell, fin2_ap, fin2K_some, opK_some, fin1_ap, op1K_some, mOp2_ap, mOp1_ap, add_ii, sub_ii, neg_i, not_b, lt_ii, le_ii, gt_ii, ge_ii, eq_ii, ne_ii, ix_lst, Sz.ix_tup, ix_scr, omap_some, atI0, atI1, atI2, bl?_bl, tBl_ap, tBlK_some, tNotM_ap, tAndM_ap, tOrM_ap, tTrue_ap, mIf_ap, mAnd_ap, mOr_ap, andK_some, orK_some, mArgs_nil, mArgs_cons, mOwns_nil, mOwns_cons, mList_ap, mTup_ap, mCallB_ap, finL1, finL2, finL3, finL4, finL5, finT2, finT3, vwK_some, vws_nil, vws_cons, opsK_some, finB_ap, len_scr, len_lst, len_tup, abs_i, min_ii, max_ii, int_b, int_i, seqK_nx, seqK_rt, seqK_ex, seqK_bk, seqK_ct, seqK_if, sSeq_ap, sNil_ap, sPass_ap, sBreak_ap, sCont_ap, sRet_ap, sRetN_ap, sIf_ap, sExpr_ap, nxK_some, sAsg_ap, gNm_ap, own_false, own_val, own_cell, own_fr, sPar2_ap, sPar3_ap, par2K_ap, par3K_ap, gVals_nil, gVK_some, gVals_cons, gTu_tup, gTu_lst, gTu_fr, finF_nx, finF_ex, finF_rt, finR_val, finR_fr, finF_if, mCallF_ap, mMake_ap, mMeth_ap, clsOf_obj, mAttr_ap, finA_obj, ite_true', ite_false', ite_T, ite_F, sFor_ap, iVal_ap, finI_lst, finI_fr, finI_tup, decide_eq_true_eq, Bool.not_eq_true', decide_eq_false_iff_not, Nat.reduceAdd, mLm_ap, lmK_cell, isLst_lst, finLm0, finLm1, finLm2, lm3K_lst, lm4K_some, get_end, set_end, is_non, isnot_non, isNon_non, isNon_int, isNon_tup, isNon_obj, eq_bb, Bool.not_true, Bool.not_false, fld_low, fld_low_in, methK_some mt0, ib_2, k1]
        rw [List.take_length]
      · have k1 : ∀ ν : Sto, fi_Measure_is_below.sem [.val (Ob t u), .val (Ob t' u'), .val (.bl false)] ν = some (.ok (.val (.bl false)), ν) := fun ν => by rw [below_sem i1 i2 p1 p2 hn, decide_eq_false h1]; rfl
        rw [if_neg h1]
        by_cases h2 : x.1 * y.2 = y.1 * x.2
        · rw [decide_eq_true h2] at k2
          rw [if_pos h2]
          refine ⟨Ob t u, fun μ => ?_, t, u, rfl, i1, p1⟩
          rw [st]
          unfold c_later_begin
          cases ia <;> (simp only [mVar_ap, slotM_some, List.getElem?_cons_zero, List.getElem?_cons_succ, List.set_cons_zero, List.set_cons_succ, mK_ap, andThen_ok, andThen_if, exThen_ok, exThen_if, vw_val, vw_fr, vw_cell, cellV_lst, cellV_frz, rt_val, rt_fr, rt_cell, fin2_ap, fin2K_some, opK_some, fin1_ap, op1K_some, mOp2_ap, mOp1_ap, add_ii, sub_ii, neg_i, not_b, lt_ii, le_ii, gt_ii, ge_ii, eq_ii, ne_ii, ix_lst, Sz.ix_tup, ix_scr, omap_some, atI0, atI1, atI2, bl?_bl, tBl_ap, tBlK_some, tNotM_ap, tAndM_ap, tOrM_ap, tTrue_ap, mIf_ap, mAnd_ap, mOr_ap, andK_some, orK_some, mArgs_nil, mArgs_cons, mOwns_nil, mOwns_cons, mList_ap, mTup_ap, mCallB_ap, finL1, finL2, finL3, finL4, finL5, finT2, finT3, vwK_some, vws_nil, vws_cons, opsK_some, finB_ap, len_scr, len_lst, len_tup, abs_i, min_ii, max_ii, int_b, int_i, seqK_nx, seqK_rt, seqK_ex, seqK_bk, seqK_ct, seqK_if, sSeq_ap, sNil_ap, sPass_ap, sBreak_ap, sCont_ap, sRet_ap, sRetN_ap, sIf_ap, sExpr_ap, nxK_some, sAsg_ap, gNm_ap, own_false, own_val, own_cell, own_fr, sPar2_ap, sPar3_ap, par2K_ap, par3K_ap, gVals_nil, gVK_some, gVals_cons, gTu_tup, gTu_lst, gTu_fr, finF_nx, finF_ex, finF_rt, finR_val, finR_fr, finF_if, mCallF_ap, mMake_ap, mMeth_ap, clsOf_obj, mAttr_ap, finA_obj, ite_true', ite_false', ite_T, ite_F, sFor_ap, iVal_ap, finI_lst, finI_fr, finI_tup, decide_eq_true_eq, Bool.not_eq_true', decide_eq_false_iff_not, Nat.reduceAdd, mLm_ap, lmK_cell, isLst_lst, finLm0, finLm1, finLm2, lm3K_lst, lm4K_some, get_end, set_end, is_non, isnot_non, isNon_non, isNon_int, isNon_tup, isNon_obj, eq_bb, Bool.not_true, Bool.not_false, fld_low, fld_low_in, methK_some mt0, ib_2, k1, k2, Option.isSome_some, Bool.true_and, Bool.false_and, Bool.and_true, Bool.and_false]; rw [List.take_length])
        · rw [decide_eq_false h2] at k2
          rw [if_neg h2]
          refine ⟨Ob t u, fun μ => ?_, t, u, rfl, i1, p1⟩
          rw [st]
          unfold c_later_begin
          simp only [mVar_ap, slotM_some, List.getElem?_cons_zero, List.getElem?_cons_succ, List.set_cons_zero, List.set_cons_succ, mK_ap, andThen_ok, andThen_if, exThen_ok, exThen_if, vw_val, vw_fr, vw_cell, cellV_lst, cellV_frz, rt_val, rt_fr, rt_cell, fin2_ap, fin2K_some, opK_some, fin1_ap, op1K_some, mOp2_ap, mOp1_ap, add_ii, sub_ii, neg_i, not_b, lt_ii, le_ii, gt_ii, ge_ii, eq_ii, ne_ii, ix_lst, Sz.ix_tup, ix_scr, omap_some, atI0, atI1, atI2, bl?_bl, tBl_ap, tBlK_some, tNotM_ap, tAndM_ap, tOrM_ap, tTrue_ap, mIf_ap, mAnd_ap, mOr_ap, andK_some, orK_some, mArgs_nil, mArgs_cons, mOwns_nil, mOwns_cons, mList_ap, mTup_ap, mCallB_ap, finL1, finL2, finL3, finL4, finL5, finT2, finT3, vwK_some, vws_nil, vws_cons, opsK_some, finB_ap, len_scr, len_lst, len_tup, abs_i, min_ii, max_ii, int_b, int_i, seqK_nx, seqK_rt, seqK_ex, seqK_bk, seqK_ct, seqK_if, sSeq_ap, sNil_ap, sPass_ap, sBreak_ap, sCont_ap, sRet_ap, sRetN_ap, sIf_ap, sExpr_ap, nxK_some, sAsg_ap, gNm_ap, own_false, own_val, own_cell, own_fr, sPar2_ap, sPar3_ap, par2K_ap, par3K_ap, gVals_nil, gVK_some, gVals_cons, gTu_tup, gTu_lst, gTu_fr, finF_nx, finF_ex, finF_rt, finR_val, finR_fr, finF_if, mCallF_ap, mMake_ap, mMeth_ap, clsOf_obj, mAttr_ap, finA_obj, ite_true', ite_false', ite_T, ite_F, sFor_ap, iVal_ap, finI_lst, finI_fr, finI_tup, decide_eq_true_eq, Bool.not_eq_true', decide_eq_false_iff_not, Nat.reduceAdd, mLm_ap, lmK_cell, isLst_lst, finLm0, finLm1, finLm2, lm3K_lst, lm4K_some, get_end, set_end, is_non, isnot_non, isNon_non, isNon_int, isNon_tup, isNon_obj, eq_bb, Bool.not_true, Bool.not_false, fld_low, fld_low_in, methK_some mt0, ib_2, k1, k2]
          rw [List.take_length]
theorem earlier_call (hb : ObE n b db) (hb' : ObE n b' db') (hn : n ≤ 9000) : ∃ d, (∀ μ : Sto, callF fi_earlier_end 2 [] [.val (So a b da db ia ib), .val (So a' b' da' db' ia' ib')] [] μ = some (.ok (.val (.tup [d, .bl ((endL b ib b' ib').1.isSome && (endL b ib b' ib').2)])), μ)) ∧ ObE n (endL b ib b' ib').1 d := by
  have st : ∀ μ : Sto, callF fi_earlier_end 2 [] [.val (So a b da db ia ib), .val (So a' b' da' db' ia' ib')] [] μ = finF μ.length (c_earlier_end [some (.val (So a b da db ia ib)), some (.val (So a' b' da' db' ia' ib'))] μ) := fun μ =>
    (show callF fi_earlier_end 2 [] [.val (So a b da db ia ib), .val (So a' b' da' db' ia' ib')] [] μ = fi_earlier_end.sem [.val (So a b da db ia ib), .val (So a' b' da' db' ia' ib')] μ from callF_eq rfl rfl rfl).trans rfl
  cases b with
  | none =>
    cases hb
    refine ⟨db', fun μ => ?_, hb'⟩
    rw [st]
    unfold c_earlier_end
    simp only [mVar_ap, slotM_some, List.getElem?_cons_zero, List.getElem?_cons_succ, List.set_cons_zero, List.set_cons_succ, mK_ap, andThen_ok, andThen_if, exThen_ok, exThen_if, vw_val, vw_fr, vw_cell, cellV_lst, cellV_frz, rt_val, rt_fr, rt_cell, fin2_ap, fin2K_some, opK_some, fin1_ap, op1K_some, mOp2_ap, mOp1_ap, add_ii, sub_ii, neg_i, not_b, lt_ii, le_ii, gt_ii, ge_ii, eq_ii, ne_ii, ix_lst, Sz.ix_tup, ix_scr, omap_some, atI0, atI1, atI2, bl?_bl, tBl_ap, tBlK_some, tNotM_ap, tAndM_ap, tOrM_ap, tTrue_ap, mIf_ap, mAnd_ap, mOr_ap, andK_some, orK_some, mArgs_nil, mArgs_cons, mOwns_nil, mOwns_cons, mList_ap, mTup_ap, mCallB_ap, finL1, finL2, finL3, finL4, finL5, finT2, finT3, vwK_some, vws_nil, vws_cons, opsK_some, finB_ap, len_scr, len_lst, len_tup, abs_i, min_ii, max_ii, int_b, int_i, seqK_nx, seqK_rt, seqK_ex, seqK_bk, seqK_ct, seqK_if, sSeq_ap, sNil_ap, sPass_ap, sBreak_ap, sCont_ap, sRet_ap, sRetN_ap, sIf_ap, sExpr_ap, nxK_some, sAsg_ap, gNm_ap, own_false, own_val, own_cell, own_fr, sPar2_ap, sPar3_ap, par2K_ap, par3K_ap, gVals_nil, gVK_some, gVals_cons, gTu_tup, gTu_lst, gTu_fr, finF_nx, finF_ex, finF_rt, finR_val, finR_fr, finF_if, mCallF_ap, mMake_ap, mMeth_ap, clsOf_obj, mAttr_ap, finA_obj, ite_true', ite_false', ite_T, ite_F, sFor_ap, iVal_ap, finI_lst, finI_fr, finI_tup, decide_eq_true_eq, Bool.not_eq_true', decide_eq_false_iff_not, Nat.reduceAdd, mLm_ap, lmK_cell, isLst_lst, finLm0, finLm1, finLm2, lm3K_lst, lm4K_some, get_end, set_end, is_non, isnot_non, isNon_non, isNon_int, isNon_tup, isNon_obj, eq_bb, Bool.not_true, Bool.not_false, fld_high, fld_high_in]
    rw [List.take_length]
    rfl
  | some x =>
    obtain ⟨t, u, rfl, i1, p1⟩ := hb
    cases b' with
    | none =>
      cases hb'
      refine ⟨Ob t u, fun μ => ?_, t, u, rfl, i1, p1⟩
      rw [st]
      unfold c_earlier_end
      simp only [mVar_ap, slotM_some, List.getElem?_cons_zero, List.getElem?_cons_succ, List.set_cons_zero, List.set_cons_succ, mK_ap, andThen_ok, andThen_if, exThen_ok, exThen_if, vw_val, vw_fr, vw_cell, cellV_lst, cellV_frz, rt_val, rt_fr, rt_cell, fin2_ap, fin2K_some, opK_some, fin1_ap, op1K_some, mOp2_ap, mOp1_ap, add_ii, sub_ii, neg_i, not_b, lt_ii, le_ii, gt_ii, ge_ii, eq_ii, ne_ii, ix_lst, Sz.ix_tup, ix_scr, omap_some, atI0, atI1, atI2, bl?_bl, tBl_ap, tBlK_some, tNotM_ap, tAndM_ap, tOrM_ap, tTrue_ap, mIf_ap, mAnd_ap, mOr_ap, andK_some, orK_some, mArgs_nil, mArgs_cons, mOwns_nil, mOwns_cons, mList_ap, mTup_ap, mCallB_ap, finL1, finL2, finL3, finL4, finL5, finT2, finT3, vwK_some, vws_nil, vws_cons, opsK_some, finB_ap, len_scr, len_lst, len_tup, abs_i, min_ii, max_ii, int_b, int_i, seqK_nx, seqK_rt, seqK_ex, seqK_bk, seqK_ct, seqK_if, sSeq_ap, sNil_ap, sPass_ap, sBreak_ap, sCont_ap, sRet_ap, sRetN_ap, sIf_ap, sExpr_ap, nxK_some, sAsg_ap, gNm_ap, own_false, own_val, own_cell, own_fr, sPar2_ap, sPar3_ap, par2K_ap, par3K_ap, gVals_nil, gVK_some, gVals_cons, gTu_tup, gTu_lst, gTu_fr, finF_nx, finF_ex, finF_rt, finR_val, finR_fr, finF_if, mCallF_ap, mMake_ap, mMeth_ap, clsOf_obj, mAttr_ap, finA_obj, ite_true', ite_false', ite_T, ite_F, sFor_ap, iVal_ap, finI_lst, finI_fr, finI_tup, decide_eq_true_eq, Bool.not_eq_true', decide_eq_false_iff_not, Nat.reduceAdd, mLm_ap, lmK_cell, isLst_lst, finLm0, finLm1, finLm2, lm3K_lst, lm4K_some, get_end, set_end, is_non, isnot_non, isNon_non, isNon_int, isNon_tup, isNon_obj, eq_bb, Bool.not_true, Bool.not_false, fld_high, fld_high_in]
      rw [List.take_length]
      rfl
    | some y =>
      obtain ⟨t', u', rfl, i2, p2⟩ := hb'
      unfold endL
      dsimp only
      have k2 := own_eq i1 i2 p1 p2
      by_cases h1 : y.1 * x.2 < x.1 * y.2
      · have k1 : ∀ ν : Sto, fi_Measure_is_below.sem [.val (Ob t' u'), .val (Ob t u), .val (.bl false)] ν = some (.ok (.val (.bl true)), ν) := fun ν => by rw [below_sem i2 i1 p2 p1 hn, decide_eq_true h1]; rfl
        rw [if_pos h1]
        refine ⟨Ob t' u', fun μ => ?_, t', u', rfl, i2, p2⟩
        rw [st]
        unfold c_earlier_end
        simp only [mVar_ap, slotM_some, List.getElem?_cons_zero, List.getElem?_cons_succ, List.set_cons_zero, List.set_cons_succ, mK_ap, andThen_ok, andThen_if, exThen_ok, exThen_if, vw_val, vw_fr, vw_cell, cellV_lst, cellV_frz, rt_val, rt_fr, rt_cell, fin2_ap, fin2K_some, opK_some, fin1_ap, op1K_some, mOp2_ap, mOp1_ap, add_ii, sub_ii, neg_i, not_b, lt_ii, le_ii, gt_ii, ge_ii, eq_ii, ne_ii, ix_lst, Sz.ix_tup, ix_scr, omap_some, atI0, atI1, atI2, bl?_bl, tBl_ap, tBlK_some, tNotM_ap, tAndM_ap, tOrM_ap, tTrue_ap, mIf_ap, mAnd_ap, mOr_ap, andK_some, orK_some, mArgs_nil, mArgs_cons, mOwns_nil, mOwns_cons, mList_ap, mTup_ap, mCallB_ap, finL1, finL2, finL3, finL4, finL5, finT2, finT3, vwK_some, vws_nil, vws_cons, opsK_some, finB_ap, len_scr, len_lst, len_tup, abs_i, min_ii, max_ii, int_b, int_i, seqK_nx, seqK_rt, seqK_ex, seqK_bk, seqK_ct, seqK_if, sSeq_ap, sNil_ap, sPass_ap, sBreak_ap, sCont_ap, sRet_ap, sRetN_ap, sIf_ap, sExpr_ap, nxK_some, sAsg_ap, gNm_ap, own_false, own_val, own_cell, own_fr, sPar2_ap, sPar3_ap, par2K_ap, par3K_ap, gVals_nil, gVK_some, gVals_cons, gTu_tup, gTu_lst, gTu_fr, finF_nx, finF_ex, finF_rt, finR_val, finR_fr, finF_if, mCallF_ap, mMake_ap, mMeth_ap, clsOf_obj, mAttr_ap, finA_obj, ite_true', ite_false', ite_T, ite_F, sFor_ap, iVal_ap, finI_lst, finI_fr, finI_tup, decide_eq_true_eq, Bool.not_eq_true', decide_eq_false_iff_not, Nat.reduceAdd, mLm_ap, lmK_cell, isLst_lst, finLm0, finLm1, finLm2, lm3K_lst, lm4K_some, get_end, set_end, is_non, isnot_non, isNon_non, isNon_int, isNon_tup, isNon_obj, eq_bb, Bool.not_true, Bool.not_false, fld_high, fld_high_in, methK_some mt0, ib_2, k1]
        rw [List.take_length]
      · have k1 : ∀ ν : Sto, fi_Measure_is_below.sem [.val (Ob t' u'), .val (Ob t u), .val (.bl false)] ν = some (.ok (.val (.bl false)), ν) := fun ν => by rw [below_sem i2 i1 p2 p1 hn, decide_eq_false h1]; rfl
        rw [if_neg h1]
        by_cases h2 : x.1 * y.2 = y.1 * x.2
        · rw [decide_eq_true h2] at k2
          rw [if_pos h2]
          refine ⟨Ob t u, fun μ => ?_, t, u, rfl, i1, p1⟩
          rw [st]
          unfold c_earlier_end
          cases ib <;> (simp only [mVar_ap, slotM_some, List.getElem?_cons_zero, List.getElem?_cons_succ, List.set_cons_zero, List.set_cons_succ, mK_ap, andThen_ok, andThen_if, exThen_ok, exThen_if, vw_val, vw_fr, vw_cell, cellV_lst, cellV_frz, rt_val, rt_fr, rt_cell, fin2_ap, fin2K_some, opK_some, fin1_ap, op1K_some, mOp2_ap, mOp1_ap, add_ii, sub_ii, neg_i, not_b, lt_ii, le_ii, gt_ii, ge_ii, eq_ii, ne_ii, ix_lst, Sz.ix_tup, ix_scr, omap_some, atI0, atI1, atI2, bl?_bl, tBl_ap, tBlK_some, tNotM_ap, tAndM_ap, tOrM_ap, tTrue_ap, mIf_ap, mAnd_ap, mOr_ap, andK_some, orK_some, mArgs_nil, mArgs_cons, mOwns_nil, mOwns_cons, mList_ap, mTup_ap, mCallB_ap, finL1, finL2, finL3, finL4, finL5, finT2, finT3, vwK_some, vws_nil, vws_cons, opsK_some, finB_ap, len_scr, len_lst, len_tup, abs_i, min_ii, max_ii, int_b, int_i, seqK_nx, seqK_rt, seqK_ex, seqK_bk, seqK_ct, seqK_if, sSeq_ap, sNil_ap, sPass_ap, sBreak_ap, sCont_ap, sRet_ap, sRetN_ap, sIf_ap, sExpr_ap, nxK_some, sAsg_ap, gNm_ap, own_false, own_val, own_cell, own_fr, sPar2_ap, sPar3_ap, par2K_ap, par3K_ap, gVals_nil, gVK_some, gVals_cons, gTu_tup, gTu_lst, gTu_fr, finF_nx, finF_ex, finF_rt, finR_val, finR_fr, finF_if, mCallF_ap, mMake_ap, mMeth_ap, clsOf_obj, mAttr_ap, finA_obj, ite_true', ite_false', ite_T, ite_F, sFor_ap, iVal_ap, finI_lst, finI_fr, finI_tup, decide_eq_true_eq, Bool.not_eq_true', decide_eq_false_iff_not, Nat.reduceAdd, mLm_ap, lmK_cell, isLst_lst, finLm0, finLm1, finLm2, lm3K_lst, lm4K_some, get_end, set_end, is_non, isnot_non, isNon_non, isNon_int, isNon_tup, isNon_obj, eq_bb, Bool.not_true, Bool.not_false, fld_high, fld_high_in, methK_some mt0, ib_2, k1, k2, Option.isSome_some, Bool.true_and, Bool.false_and, Bool.and_true, Bool.and_false]; rw [List.take_length])
        · rw [decide_eq_false h2] at k2
          rw [if_neg h2]
          refine ⟨Ob t u, fun μ => ?_, t, u, rfl, i1, p1⟩
          rw [st]
          unfold c_earlier_end
          simp only [mVar_ap, slotM_some, List.getElem?_cons_zero, List.getElem?_cons_succ, List.set_cons_zero, List.set_cons_succ, mK_ap, andThen_ok, andThen_if, exThen_ok, exThen_if, vw_val, vw_fr, vw_cell, cellV_lst, cellV_frz, rt_val, rt_fr, rt_cell, fin2_ap, fin2K_some, opK_some, fin1_ap, op1K_some, mOp2_ap, mOp1_ap, add_ii, sub_ii, neg_i, not_b, lt_ii, le_ii, gt_ii, ge_ii, eq_ii, ne_ii, ix_lst, Sz.ix_tup, ix_scr, omap_some, atI0, atI1, atI2, bl?_bl, tBl_ap, tBlK_some, tNotM_ap, tAndM_ap, tOrM_ap, tTrue_ap, mIf_ap, mAnd_ap, mOr_ap, andK_some, orK_some, mArgs_nil, mArgs_cons, mOwns_nil, mOwns_cons, mList_ap, mTup_ap, mCallB_ap, finL1, finL2, finL3, finL4, finL5, finT2, finT3, vwK_some, vws_nil, vws_cons, opsK_some, finB_ap, len_scr, len_lst, len_tup, abs_i, min_ii, max_ii, int_b, int_i, seqK_nx, seqK_rt, seqK_ex, seqK_bk, seqK_ct, seqK_if, sSeq_ap, sNil_ap, sPass_ap, sBreak_ap, sCont_ap, sRet_ap, sRetN_ap, sIf_ap, sExpr_ap, nxK_some, sAsg_ap, gNm_ap, own_false, own_val, own_cell, own_fr, sPar2_ap, sPar3_ap, par2K_ap, par3K_ap, gVals_nil, gVK_some, gVals_cons, gTu_tup, gTu_lst, gTu_fr, finF_nx, finF_ex, finF_rt, finR_val, finR_fr, finF_if, mCallF_ap, mMake_ap, mMeth_ap, clsOf_obj, mAttr_ap, finA_obj, ite_true', ite_false', ite_T, ite_F, sFor_ap, iVal_ap, finI_lst, finI_fr, finI_tup, decide_eq_true_eq, Bool.not_eq_true', decide_eq_false_iff_not, Nat.reduceAdd, mLm_ap, lmK_cell, isLst_lst, finLm0, finLm1, finLm2, lm3K_lst, lm4K_some, get_end, set_end, is_non, isnot_non, isNon_non, isNon_int, isNon_tup, isNon_obj, eq_bb, Bool.not_true, Bool.not_false, fld_high, fld_high_in, methK_some mt0, ib_2, k1, k2]
          rw [List.take_length]
end
section
theorem lt_cong {t u x y a b c d : Int} (e1 : t * b = a * u) (e2 : x * d = c * y) (hu : 0 < u) (hy : 0 < y) (hb : 0 < b) (hd : 0 < d) : (t * y < x * u) ↔ (a * d < c * b) := by
  obtain ⟨k1, k2⟩ := scale1 e1 e2
  have p1 : 0 < b * d := Int.mul_pos hb hd
  have p2 : 0 < u * y := Int.mul_pos hu hy
  constructor
  · intro h
    have h3 := Int.mul_lt_mul_of_pos_right h p1
    rw [k1, k2] at h3
    exact Int.lt_of_mul_lt_mul_right h3 (Int.le_of_lt p2)
  · intro h
    have h3 := Int.mul_lt_mul_of_pos_right h p2
    rw [← k1, ← k2] at h3
    exact Int.lt_of_mul_lt_mul_right h3 (Int.le_of_lt p1)
theorem eq_cong {t u x y a b c d : Int} (e1 : t * b = a * u) (e2 : x * d = c * y) (hu : 0 < u) (hy : 0 < y) (hb : 0 < b) (hd : 0 < d) : (t * y = x * u) ↔ (a * d = c * b) := by
  obtain ⟨k1, k2⟩ := scale1 e1 e2
  have p1 : b * d ≠ 0 := Int.mul_ne_zero (by omega) (by omega)
  have p2 : u * y ≠ 0 := Int.mul_ne_zero (by omega) (by omega)
  constructor
  · intro h
    rw [h, k2] at k1
    exact (Int.eq_of_mul_eq_mul_right p2 k1).symm
  · intro h
    rw [h, ← k2] at k1
    exact Int.eq_of_mul_eq_mul_right p1 k1
/-- the same fraction, or none -/
def EqE : Option (Int × Int) → Option (Int × Int) → Prop
  | none, none => True
  | some x, some y => x.1 * y.2 = y.1 * x.2
  | _, _ => False
theorem EqE.refl : ∀ a, EqE a a
  | none => trivial
  | some _ => rfl
variable {a b a' b' a2 b2 : Option (Int × Int)} {ia ib ia' ib' ia2 ib2 : Bool} {m n : Nat}
theorem someB_cong (ha : FrE m n a) (hb : FrE m n b) (ha2 : FrE m n a2) (hb2 : FrE m n b2) (ea : EqE a a2) (eb : EqE b b2) (fa : (a.isSome && ia) = (a2.isSome && ia2)) (fb : (b.isSome && ib) = (b2.isSome && ib2)) : someB a b ia ib = someB a2 b2 ia2 ib2 := by
  cases a with
  | none =>
    cases a2 with
    | none => cases b <;> cases b2 <;> rfl
    | some _ => exact ea.elim
  | some x =>
    cases a2 with
    | none => exact ea.elim
    | some x2 =>
      cases b with
      | none =>
        cases b2 with
        | none => rfl
        | some _ => exact eb.elim
      | some y =>
        cases b2 with
        | none => exact eb.elim
        | some y2 =>
          have fa : ia = ia2 := by simpa using fa
          have fb : ib = ib2 := by simpa using fb
          subst fa fb
          show (decide (x.1 * y.2 < y.1 * x.2) || (decide (x.1 * y.2 = y.1 * x.2) && (ia && ib))) = (decide (x2.1 * y2.2 < y2.1 * x2.2) || (decide (x2.1 * y2.2 = y2.1 * x2.2) && (ia && ib)))
          rw [decide_eq_decide.mpr (lt_cong ea eb ha.2.2 hb.2.2 ha2.2.2 hb2.2.2), decide_eq_decide.mpr (eq_cong ea eb ha.2.2 hb.2.2 ha2.2.2 hb2.2.2)]
theorem beginL_sym : EqE (beginL a' ia' a ia).1 (beginL a ia a' ia').1 ∧ ((beginL a' ia' a ia).1.isSome && (beginL a' ia' a ia).2) = ((beginL a ia a' ia').1.isSome && (beginL a ia a' ia').2) := by
  cases a with
  | none =>
    cases a' with
    | none => exact ⟨trivial, rfl⟩
    | some y => exact ⟨rfl, rfl⟩
  | some x =>
    cases a' with
    | none => exact ⟨rfl, rfl⟩
    | some y =>
      unfold beginL
      dsimp only
      by_cases h1 : x.1 * y.2 < y.1 * x.2
      · rw [if_neg (by omega), if_neg (by omega), if_pos h1]
        exact ⟨rfl, rfl⟩
      · by_cases h2 : x.1 * y.2 = y.1 * x.2
        · rw [if_neg (by omega), if_pos h2.symm, if_neg h1, if_pos h2]
          exact ⟨h2.symm, by rw [Bool.and_comm ia' ia]; rfl⟩
        · rw [if_pos (by omega), if_neg h1, if_neg h2]
          exact ⟨rfl, rfl⟩
theorem endL_sym : EqE (endL a' ia' a ia).1 (endL a ia a' ia').1 ∧ ((endL a' ia' a ia).1.isSome && (endL a' ia' a ia).2) = ((endL a ia a' ia').1.isSome && (endL a ia a' ia').2) := by
  cases a with
  | none =>
    cases a' with
    | none => exact ⟨trivial, rfl⟩
    | some y => exact ⟨rfl, rfl⟩
  | some x =>
    cases a' with
    | none => exact ⟨rfl, rfl⟩
    | some y =>
      unfold endL
      dsimp only
      by_cases h1 : y.1 * x.2 < x.1 * y.2
      · rw [if_neg (by omega), if_neg (by omega), if_pos h1]
        exact ⟨rfl, rfl⟩
      · by_cases h2 : x.1 * y.2 = y.1 * x.2
        · rw [if_neg (by omega), if_pos h2.symm, if_neg h1, if_pos h2]
          exact ⟨h2.symm, by rw [Bool.and_comm ia' ia]; rfl⟩
        · rw [if_pos (by omega), if_neg h1, if_neg h2]
          exact ⟨rfl, rfl⟩
theorem beginL_self : (beginL a ia a ia).1 = a ∧ (beginL a ia a ia).2 = ia := by
  cases a with
  | none => exact ⟨rfl, rfl⟩
  | some x =>
    unfold beginL
    dsimp only
    rw [if_neg (Int.lt_irrefl _), if_pos rfl]
    exact ⟨rfl, Bool.and_self ia⟩
theorem endL_self : (endL a ia a ia).1 = a ∧ (endL a ia a ia).2 = ia := by
  cases a with
  | none => exact ⟨rfl, rfl⟩
  | some x =>
    unfold endL
    dsimp only
    rw [if_neg (Int.lt_irrefl _), if_pos rfl]
    exact ⟨rfl, Bool.and_self ia⟩
theorem someB_flag : someB a b (a.isSome && ia) (b.isSome && ib) = someB a b ia ib := by
  cases a <;> cases b <;> simp [someB]
theorem someB_swap (h : someB a b ia ib = false) : someB b a true true = true := by
  cases a with
  | none => cases h
  | some x =>
    cases b with
    | none => cases h
    | some y =>
      replace h : (decide (x.1 * y.2 < y.1 * x.2) || (decide (x.1 * y.2 = y.1 * x.2) && (ia && ib))) = false := h
      show (decide (y.1 * x.2 < x.1 * y.2) || (decide (y.1 * x.2 = x.1 * y.2) && (true && true))) = true
      rw [Bool.or_eq_false_iff] at h
      have h1 := of_decide_eq_false h.1
      by_cases h2 : y.1 * x.2 < x.1 * y.2
      · rw [decide_eq_true h2]; rfl
      · rw [decide_eq_false h2, decide_eq_true (by omega)]; rfl
variable {da db da' db' : D}
/-- what the program's cut tells -/
def CutOut (N : Nat) (a b : Option (Int × Int)) (ia ib : Bool) (a' b' : Option (Int × Int)) (ia' ib' : Bool) (out : D) : Prop :=
  (someB (beginL a ia a' ia').1 (endL b ib b' ib').1 (beginL a ia a' ia').2 (endL b ib b' ib').2 = true ∧ ∃ d e, out = So (beginL a ia a' ia').1 (endL b ib b' ib').1 d e (beginL a ia a' ia').2 (endL b ib b' ib').2 ∧ ObE N (beginL a ia a' ia').1 d ∧ ObE N (endL b ib b' ib').1 e) ∨
  (someB (beginL a ia a' ia').1 (endL b ib b' ib').1 (beginL a ia a' ia').2 (endL b ib b' ib').2 = false ∧ out = .non)
theorem and_same {x y : Bool} : (x && (x && y)) = (x && y) := by cases x <;> rfl
theorem cut_sem (ha : ObE n a da) (hb : ObE n b db) (ha' : ObE n a' da') (hb' : ObE n b' db') (hn : n ≤ 9000) : ∃ out, (∀ μ : Sto, fi_Stretch_cut.sem [.val (So a b da db ia ib), .val (So a' b' da' db' ia' ib')] μ = some (.ok (.val out), μ)) ∧ CutOut n a b ia ib a' b' ia' ib' out := by
  obtain ⟨d, e1, od⟩ := later_call (ia := ia) (ia' := ia') (b := b) (b' := b') (ib := ib) (ib' := ib') (db := db) (db' := db') ha ha' hn
  obtain ⟨e, e2, oe⟩ := earlier_call (ia := ia) (ia' := ia') (a := a) (a' := a') (ib := ib) (ib' := ib') (da := da) (da' := da') hb hb' hn
  have k := fun ν : Sto => is_some_call (ia := (beginL a ia a' ia').1.isSome && (beginL a ia a' ia').2) (ib := (endL b ib b' ib').1.isSome && (endL b ib b' ib').2) (μ := ν) od oe hn
  rw [someB_flag] at k
  have st : ∀ μ : Sto, fi_Stretch_cut.sem [.val (So a b da db ia ib), .val (So a' b' da' db' ia' ib')] μ = finF μ.length (c_Stretch_cut [some (.val (So a b da db ia ib)), some (.val (So a' b' da' db' ia' ib')), none, none, none, none] μ) := fun μ => rfl
  cases hB : someB (beginL a ia a' ia').1 (endL b ib b' ib').1 (beginL a ia a' ia').2 (endL b ib b' ib').2 with
  | true =>
    rw [hB] at k
    have mk := stretch_make (ia := (beginL a ia a' ia').1.isSome && (beginL a ia a' ia').2) (ib := (endL b ib b' ib').1.isSome && (endL b ib b' ib').2) od oe hn (by rw [someB_flag]; exact hB)
    rw [and_same, and_same] at mk
    refine ⟨_, fun μ => ?_, .inl ⟨hB, d, e, rfl, od, oe⟩⟩
    rw [st]
    unfold c_Stretch_cut
    simp only [mVar_ap, slotM_some, List.getElem?_cons_zero, List.getElem?_cons_succ, List.set_cons_zero, List.set_cons_succ, mK_ap, andThen_ok, andThen_if, exThen_ok, exThen_if, vw_val, vw_fr, vw_cell, cellV_lst, cellV_frz, rt_val, rt_fr, rt_cell, fin2_ap, fin2K_some, opK_some, fin1_ap, op1K_some, mOp2_ap, mOp1_ap, add_ii, sub_ii, neg_i, not_b, lt_ii, le_ii, gt_ii, ge_ii, eq_ii, ne_ii, ix_lst, Sz.ix_tup, ix_scr, omap_some, atI0, atI1, atI2, bl?_bl, tBl_ap, tBlK_some, tNotM_ap, tAndM_ap, tOrM_ap, tTrue_ap, mIf_ap, mAnd_ap, mOr_ap, andK_some, orK_some, mArgs_nil, mArgs_cons, mOwns_nil, mOwns_cons, mList_ap, mTup_ap, mCallB_ap, finL1, finL2, finL3, finL4, finL5, finT2, finT3, vwK_some, vws_nil, vws_cons, opsK_some, finB_ap, len_scr, len_lst, len_tup, abs_i, min_ii, max_ii, int_b, int_i, seqK_nx, seqK_rt, seqK_ex, seqK_bk, seqK_ct, seqK_if, sSeq_ap, sNil_ap, sPass_ap, sBreak_ap, sCont_ap, sRet_ap, sRetN_ap, sIf_ap, sExpr_ap, nxK_some, sAsg_ap, gNm_ap, own_false, own_val, own_cell, own_fr, sPar2_ap, sPar3_ap, par2K_ap, par3K_ap, gVals_nil, gVK_some, gVals_cons, gTu_tup, gTu_lst, gTu_fr, finF_nx, finF_ex, finF_rt, finR_val, finR_fr, finF_if, mCallF_ap, mMake_ap, mMeth_ap, clsOf_obj, mAttr_ap, finA_obj, ite_true', ite_false', ite_T, ite_F, sFor_ap, iVal_ap, finI_lst, finI_fr, finI_tup, decide_eq_true_eq, Bool.not_eq_true', decide_eq_false_iff_not, Nat.reduceAdd, mLm_ap, lmK_cell, isLst_lst, finLm0, finLm1, finLm2, lm3K_lst, lm4K_some, get_end, set_end, is_non, isnot_non, isNon_non, isNon_int, isNon_tup, isNon_obj, eq_bb, Bool.not_true, Bool.not_false, e1, e2, k, mk]
    rw [List.take_length]
  | false =>
    rw [hB] at k
    refine ⟨.non, fun μ => ?_, .inr ⟨hB, rfl⟩⟩
    rw [st]
    unfold c_Stretch_cut
    simp only [mVar_ap, slotM_some, List.getElem?_cons_zero, List.getElem?_cons_succ, List.set_cons_zero, List.set_cons_succ, mK_ap, andThen_ok, andThen_if, exThen_ok, exThen_if, vw_val, vw_fr, vw_cell, cellV_lst, cellV_frz, rt_val, rt_fr, rt_cell, fin2_ap, fin2K_some, opK_some, fin1_ap, op1K_some, mOp2_ap, mOp1_ap, add_ii, sub_ii, neg_i, not_b, lt_ii, le_ii, gt_ii, ge_ii, eq_ii, ne_ii, ix_lst, Sz.ix_tup, ix_scr, omap_some, atI0, atI1, atI2, bl?_bl, tBl_ap, tBlK_some, tNotM_ap, tAndM_ap, tOrM_ap, tTrue_ap, mIf_ap, mAnd_ap, mOr_ap, andK_some, orK_some, mArgs_nil, mArgs_cons, mOwns_nil, mOwns_cons, mList_ap, mTup_ap, mCallB_ap, finL1, finL2, finL3, finL4, finL5, finT2, finT3, vwK_some, vws_nil, vws_cons, opsK_some, finB_ap, len_scr, len_lst, len_tup, abs_i, min_ii, max_ii, int_b, int_i, seqK_nx, seqK_rt, seqK_ex, seqK_bk, seqK_ct, seqK_if, sSeq_ap, sNil_ap, sPass_ap, sBreak_ap, sCont_ap, sRet_ap, sRetN_ap, sIf_ap, sExpr_ap, nxK_some, sAsg_ap, gNm_ap, own_false, own_val, own_cell, own_fr, sPar2_ap, sPar3_ap, par2K_ap, par3K_ap, gVals_nil, gVK_some, gVals_cons, gTu_tup, gTu_lst, gTu_fr, finF_nx, finF_ex, finF_rt, finR_val, finR_fr, finF_if, mCallF_ap, mMake_ap, mMeth_ap, clsOf_obj, mAttr_ap, finA_obj, ite_true', ite_false', ite_T, ite_F, sFor_ap, iVal_ap, finI_lst, finI_fr, finI_tup, decide_eq_true_eq, Bool.not_eq_true', decide_eq_false_iff_not, Nat.reduceAdd, mLm_ap, lmK_cell, isLst_lst, finLm0, finLm1, finLm2, lm3K_lst, lm4K_some, get_end, set_end, is_non, isnot_non, isNon_non, isNon_int, isNon_tup, isNon_obj, eq_bb, Bool.not_true, Bool.not_false, e1, e2, k]
    rw [List.take_length]
end
/-- ends that are let, as the law has them -/
structure Good (a b : Option (Int × Int)) (ia ib : Bool) : Prop where
  fa : FrE 150 40 a
  fb : FrE 150 40 b
  ok : someB a b ia ib = true
theorem pair_call {μ : Sto} {k n : Nat} (h : HandAt μ k n) (hn : n < 2 ^ 190) : ∃ a b ia ib a' b' ia' ib' μ', callF fi_l_pair_of 1 [] [.cell k] [] μ = some (.ok (.val (.tup [T4 a b ia ib, T4 a' b' ia' ib'])), μ') ∧ Good a b ia ib ∧ Good a' b' ia' ib' ∧ HandAt μ' k (n + 20) ∧ Upd k μ μ' := by
  rw [show callF fi_l_pair_of 1 [] [.cell k] [] μ = fi_l_pair_of.sem [.cell k] μ from callF_eq rfl rfl rfl]
  rw [show fi_l_pair_of.sem [.cell k] μ = finF μ.length (c_l_pair_of [some (.cell k), none, none, none] μ) from rfl]
  obtain ⟨fo, μ1, e1, a1, b1, h1, u1⟩ := take_call (m := 6) h (by decide) (bdl (by decide))
  obtain ⟨a, b, ia, ib, μ2, e2, fa, fb, hs, h2, u2⟩ := ends_call h1 (by omega)
  obtain ⟨c, d, ic, id', μ3, e3, fc, fd, hs3, h3, u3⟩ := ends_call h2 (by omega)
  have U := (u1.trans u2).trans u3
  have st : ∀ (p q : Option (Int × Int)) (ip iq : Bool), FrE 150 40 p → FrE 150 40 q → ∃ a' b' ia' ib' μ', finF μ.length (seqK (some (.nx, [some (.cell k), some (.val (.int fo)), some (.val (T4 a b ia ib)), some (.val (T4 p q ip iq))], μ3)) (sSeq (sIf (tNotM (tBl (mCallF fi_l_some 4 [] [mOp2 dIx (mVar 3) (mK (.int 0)), mOp2 dIx (mVar 3) (mK (.int 1)), mOp2 dIx (mVar 3) (mK (.int 2)), mOp2 dIx (mVar 3) (mK (.int 3))] []))) (sSeq (sAsg (gNm 3 false) (mTup [mOp2 dIx (mVar 3) (mK (.int 1)), mOp2 dIx (mVar 3) (mK (.int 0)), mK (.bl true), mK (.bl true)])) sNil) sNil) (sSeq (sRet (mTup [mVar 2, mVar 3])) sNil))) = some (.ok (.val (.tup [T4 a b ia ib, T4 a' b' ia' ib'])), μ') ∧ Good a' b' ia' ib' ∧ HandAt μ' k (n + 20) ∧ Upd k μ μ' := by
    intro p q ip iq fp fq
    have k1 := some_call (ia := ip) (ib := iq) (μ := μ3) fp fq (by decide)
    cases hB : someB p q ip iq with
    | true =>
      rw [hB] at k1
      simp only [mVar_ap, slotM_some, List.getElem?_cons_zero, List.getElem?_cons_succ, List.set_cons_zero, List.set_cons_succ, mK_ap, andThen_ok, andThen_if, exThen_ok, exThen_if, vw_val, vw_fr, vw_cell, cellV_lst, cellV_frz, rt_val, rt_fr, rt_cell, fin2_ap, fin2K_some, opK_some, fin1_ap, op1K_some, mOp2_ap, mOp1_ap, add_ii, sub_ii, neg_i, not_b, lt_ii, le_ii, gt_ii, ge_ii, eq_ii, ne_ii, ix_lst, Sz.ix_tup, ix_scr, omap_some, atI0, atI1, atI2, bl?_bl, tBl_ap, tBlK_some, tNotM_ap, tAndM_ap, tOrM_ap, tTrue_ap, mIf_ap, mAnd_ap, mOr_ap, andK_some, orK_some, mArgs_nil, mArgs_cons, mOwns_nil, mOwns_cons, mList_ap, mTup_ap, mCallB_ap, finL1, finL2, finL3, finL4, finL5, finT2, finT3, vwK_some, vws_nil, vws_cons, opsK_some, finB_ap, len_scr, len_lst, len_tup, abs_i, min_ii, max_ii, int_b, int_i, seqK_nx, seqK_rt, seqK_ex, seqK_bk, seqK_ct, seqK_if, sSeq_ap, sNil_ap, sPass_ap, sBreak_ap, sCont_ap, sRet_ap, sRetN_ap, sIf_ap, sExpr_ap, nxK_some, sAsg_ap, gNm_ap, own_false, own_val, own_cell, own_fr, sPar2_ap, sPar3_ap, par2K_ap, par3K_ap, gVals_nil, gVK_some, gVals_cons, gTu_tup, gTu_lst, gTu_fr, finF_nx, finF_ex, finF_rt, finR_val, finR_fr, finF_if, mCallF_ap, mMake_ap, mMeth_ap, clsOf_obj, mAttr_ap, finA_obj, ite_true', ite_false', ite_T, ite_F, sFor_ap, iVal_ap, finI_lst, finI_fr, finI_tup, decide_eq_true_eq, Bool.not_eq_true', decide_eq_false_iff_not, Nat.reduceAdd, mLm_ap, lmK_cell, isLst_lst, finLm0, finLm1, finLm2, lm3K_lst, lm4K_some, get_end, set_end, is_non, isnot_non, isNon_non, isNon_int, isNon_tup, isNon_obj, eq_bb, Bool.not_true, Bool.not_false, k1, finT4, i30]
      refine ⟨p, q, ip, iq, _, rfl, ⟨fp, fq, hB⟩, ?_, ?_⟩
      · rw [U.take]; exact h3.mono (by omega)
      · rw [U.take]; exact U
    | false =>
      rw [hB] at k1
      simp only [mVar_ap, slotM_some, List.getElem?_cons_zero, List.getElem?_cons_succ, List.set_cons_zero, List.set_cons_succ, mK_ap, andThen_ok, andThen_if, exThen_ok, exThen_if, vw_val, vw_fr, vw_cell, cellV_lst, cellV_frz, rt_val, rt_fr, rt_cell, fin2_ap, fin2K_some, opK_some, fin1_ap, op1K_some, mOp2_ap, mOp1_ap, add_ii, sub_ii, neg_i, not_b, lt_ii, le_ii, gt_ii, ge_ii, eq_ii, ne_ii, ix_lst, Sz.ix_tup, ix_scr, omap_some, atI0, atI1, atI2, bl?_bl, tBl_ap, tBlK_some, tNotM_ap, tAndM_ap, tOrM_ap, tTrue_ap, mIf_ap, mAnd_ap, mOr_ap, andK_some, orK_some, mArgs_nil, mArgs_cons, mOwns_nil, mOwns_cons, mList_ap, mTup_ap, mCallB_ap, finL1, finL2, finL3, finL4, finL5, finT2, finT3, vwK_some, vws_nil, vws_cons, opsK_some, finB_ap, len_scr, len_lst, len_tup, abs_i, min_ii, max_ii, int_b, int_i, seqK_nx, seqK_rt, seqK_ex, seqK_bk, seqK_ct, seqK_if, sSeq_ap, sNil_ap, sPass_ap, sBreak_ap, sCont_ap, sRet_ap, sRetN_ap, sIf_ap, sExpr_ap, nxK_some, sAsg_ap, gNm_ap, own_false, own_val, own_cell, own_fr, sPar2_ap, sPar3_ap, par2K_ap, par3K_ap, gVals_nil, gVK_some, gVals_cons, gTu_tup, gTu_lst, gTu_fr, finF_nx, finF_ex, finF_rt, finR_val, finR_fr, finF_if, mCallF_ap, mMake_ap, mMeth_ap, clsOf_obj, mAttr_ap, finA_obj, ite_true', ite_false', ite_T, ite_F, sFor_ap, iVal_ap, finI_lst, finI_fr, finI_tup, decide_eq_true_eq, Bool.not_eq_true', decide_eq_false_iff_not, Nat.reduceAdd, mLm_ap, lmK_cell, isLst_lst, finLm0, finLm1, finLm2, lm3K_lst, lm4K_some, get_end, set_end, is_non, isnot_non, isNon_non, isNon_int, isNon_tup, isNon_obj, eq_bb, Bool.not_true, Bool.not_false, k1, finT4, i30]
      refine ⟨q, p, true, true, _, rfl, ⟨fq, fp, someB_swap hB⟩, ?_, ?_⟩
      · rw [U.take]; exact h3.mono (by omega)
      · rw [U.take]; exact U
  have go : ∀ (p q : Option (Int × Int)), (FrE 150 40 p ∧ FrE 150 40 q) → (∀ X : Option R, finF μ.length (seqK (some (.nx, [some (.cell k), some (.val (.int fo)), some (.val (T4 a b ia ib)), some (.val (T4 p q ic id'))], μ3)) (sSeq (sIf (tNotM (tBl (mCallF fi_l_some 4 [] [mOp2 dIx (mVar 3) (mK (.int 0)), mOp2 dIx (mVar 3) (mK (.int 1)), mOp2 dIx (mVar 3) (mK (.int 2)), mOp2 dIx (mVar 3) (mK (.int 3))] []))) (sSeq (sAsg (gNm 3 false) (mTup [mOp2 dIx (mVar 3) (mK (.int 1)), mOp2 dIx (mVar 3) (mK (.int 0)), mK (.bl true), mK (.bl true)])) sNil) sNil) (sSeq (sRet (mTup [mVar 2, mVar 3])) sNil))) = X → finF μ.length (c_l_pair_of [some (.cell k), none, none, none] μ) = X) → ∃ a b ia ib a' b' ia' ib' μ', finF μ.length (c_l_pair_of [some (.cell k), none, none, none] μ) = some (.ok (.val (.tup [T4 a b ia ib, T4 a' b' ia' ib'])), μ') ∧ Good a b ia ib ∧ Good a' b' ia' ib' ∧ HandAt μ' k (n + 20) ∧ Upd k μ μ' := by
    intro p q f hX
    obtain ⟨a', b', ia', ib', μ', e, g, r⟩ := st p q ic id' f.1 f.2
    exact ⟨a, b, ia, ib, a', b', ia', ib', μ', hX _ e, ⟨fa, fb, hs⟩, g, r⟩
  by_cases c0 : fo = 0
  · skip
    have d0 : decide (fo = 0) = true := decide_eq_true (by omega)
    have d1 : decide (fo = 1) = false := decide_eq_false (by omega)
    have d2 : decide (fo = 2) = false := decide_eq_false (by omega)
    have d3 : decide (fo = 3) = false := decide_eq_false (by omega)
    refine go (b) (d) ⟨fb, fd⟩ fun X hX => ?_
    rw [← hX]
    unfold c_l_pair_of
    simp only [mVar_ap, slotM_some, List.getElem?_cons_zero, List.getElem?_cons_succ, List.set_cons_zero, List.set_cons_succ, mK_ap, andThen_ok, andThen_if, exThen_ok, exThen_if, vw_val, vw_fr, vw_cell, cellV_lst, cellV_frz, rt_val, rt_fr, rt_cell, fin2_ap, fin2K_some, opK_some, fin1_ap, op1K_some, mOp2_ap, mOp1_ap, add_ii, sub_ii, neg_i, not_b, lt_ii, le_ii, gt_ii, ge_ii, eq_ii, ne_ii, ix_lst, Sz.ix_tup, ix_scr, omap_some, atI0, atI1, atI2, bl?_bl, tBl_ap, tBlK_some, tNotM_ap, tAndM_ap, tOrM_ap, tTrue_ap, mIf_ap, mAnd_ap, mOr_ap, andK_some, orK_some, mArgs_nil, mArgs_cons, mOwns_nil, mOwns_cons, mList_ap, mTup_ap, mCallB_ap, finL1, finL2, finL3, finL4, finL5, finT2, finT3, vwK_some, vws_nil, vws_cons, opsK_some, finB_ap, len_scr, len_lst, len_tup, abs_i, min_ii, max_ii, int_b, int_i, seqK_nx, seqK_rt, seqK_ex, seqK_bk, seqK_ct, seqK_if, sSeq_ap, sNil_ap, sPass_ap, sBreak_ap, sCont_ap, sRet_ap, sRetN_ap, sIf_ap, sExpr_ap, nxK_some, sAsg_ap, gNm_ap, own_false, own_val, own_cell, own_fr, sPar2_ap, sPar3_ap, par2K_ap, par3K_ap, gVals_nil, gVK_some, gVals_cons, gTu_tup, gTu_lst, gTu_fr, finF_nx, finF_ex, finF_rt, finR_val, finR_fr, finF_if, mCallF_ap, mMake_ap, mMeth_ap, clsOf_obj, mAttr_ap, finA_obj, ite_true', ite_false', ite_T, ite_F, sFor_ap, iVal_ap, finI_lst, finI_fr, finI_tup, decide_eq_true_eq, Bool.not_eq_true', decide_eq_false_iff_not, Nat.reduceAdd, mLm_ap, lmK_cell, isLst_lst, finLm0, finLm1, finLm2, lm3K_lst, lm4K_some, get_end, set_end, is_non, isnot_non, isNon_non, isNon_int, isNon_tup, isNon_obj, eq_bb, Bool.not_true, Bool.not_false, e1, e2, e3, finT4, i30, d0, d1, d2, d3]
  by_cases c1 : fo = 1
  · skip
    have d0 : decide (fo = 0) = false := decide_eq_false (by omega)
    have d1 : decide (fo = 1) = true := decide_eq_true (by omega)
    have d2 : decide (fo = 2) = false := decide_eq_false (by omega)
    have d3 : decide (fo = 3) = false := decide_eq_false (by omega)
    refine go (c) (a) ⟨fc, fa⟩ fun X hX => ?_
    rw [← hX]
    unfold c_l_pair_of
    simp only [mVar_ap, slotM_some, List.getElem?_cons_zero, List.getElem?_cons_succ, List.set_cons_zero, List.set_cons_succ, mK_ap, andThen_ok, andThen_if, exThen_ok, exThen_if, vw_val, vw_fr, vw_cell, cellV_lst, cellV_frz, rt_val, rt_fr, rt_cell, fin2_ap, fin2K_some, opK_some, fin1_ap, op1K_some, mOp2_ap, mOp1_ap, add_ii, sub_ii, neg_i, not_b, lt_ii, le_ii, gt_ii, ge_ii, eq_ii, ne_ii, ix_lst, Sz.ix_tup, ix_scr, omap_some, atI0, atI1, atI2, bl?_bl, tBl_ap, tBlK_some, tNotM_ap, tAndM_ap, tOrM_ap, tTrue_ap, mIf_ap, mAnd_ap, mOr_ap, andK_some, orK_some, mArgs_nil, mArgs_cons, mOwns_nil, mOwns_cons, mList_ap, mTup_ap, mCallB_ap, finL1, finL2, finL3, finL4, finL5, finT2, finT3, vwK_some, vws_nil, vws_cons, opsK_some, finB_ap, len_scr, len_lst, len_tup, abs_i, min_ii, max_ii, int_b, int_i, seqK_nx, seqK_rt, seqK_ex, seqK_bk, seqK_ct, seqK_if, sSeq_ap, sNil_ap, sPass_ap, sBreak_ap, sCont_ap, sRet_ap, sRetN_ap, sIf_ap, sExpr_ap, nxK_some, sAsg_ap, gNm_ap, own_false, own_val, own_cell, own_fr, sPar2_ap, sPar3_ap, par2K_ap, par3K_ap, gVals_nil, gVK_some, gVals_cons, gTu_tup, gTu_lst, gTu_fr, finF_nx, finF_ex, finF_rt, finR_val, finR_fr, finF_if, mCallF_ap, mMake_ap, mMeth_ap, clsOf_obj, mAttr_ap, finA_obj, ite_true', ite_false', ite_T, ite_F, sFor_ap, iVal_ap, finI_lst, finI_fr, finI_tup, decide_eq_true_eq, Bool.not_eq_true', decide_eq_false_iff_not, Nat.reduceAdd, mLm_ap, lmK_cell, isLst_lst, finLm0, finLm1, finLm2, lm3K_lst, lm4K_some, get_end, set_end, is_non, isnot_non, isNon_non, isNon_int, isNon_tup, isNon_obj, eq_bb, Bool.not_true, Bool.not_false, e1, e2, e3, finT4, i30, d0, d1, d2, d3]
  by_cases c2 : fo = 2
  · skip
    have d0 : decide (fo = 0) = false := decide_eq_false (by omega)
    have d1 : decide (fo = 1) = false := decide_eq_false (by omega)
    have d2 : decide (fo = 2) = true := decide_eq_true (by omega)
    have d3 : decide (fo = 3) = false := decide_eq_false (by omega)
    refine go (a) (d) ⟨fa, fd⟩ fun X hX => ?_
    rw [← hX]
    unfold c_l_pair_of
    simp only [mVar_ap, slotM_some, List.getElem?_cons_zero, List.getElem?_cons_succ, List.set_cons_zero, List.set_cons_succ, mK_ap, andThen_ok, andThen_if, exThen_ok, exThen_if, vw_val, vw_fr, vw_cell, cellV_lst, cellV_frz, rt_val, rt_fr, rt_cell, fin2_ap, fin2K_some, opK_some, fin1_ap, op1K_some, mOp2_ap, mOp1_ap, add_ii, sub_ii, neg_i, not_b, lt_ii, le_ii, gt_ii, ge_ii, eq_ii, ne_ii, ix_lst, Sz.ix_tup, ix_scr, omap_some, atI0, atI1, atI2, bl?_bl, tBl_ap, tBlK_some, tNotM_ap, tAndM_ap, tOrM_ap, tTrue_ap, mIf_ap, mAnd_ap, mOr_ap, andK_some, orK_some, mArgs_nil, mArgs_cons, mOwns_nil, mOwns_cons, mList_ap, mTup_ap, mCallB_ap, finL1, finL2, finL3, finL4, finL5, finT2, finT3, vwK_some, vws_nil, vws_cons, opsK_some, finB_ap, len_scr, len_lst, len_tup, abs_i, min_ii, max_ii, int_b, int_i, seqK_nx, seqK_rt, seqK_ex, seqK_bk, seqK_ct, seqK_if, sSeq_ap, sNil_ap, sPass_ap, sBreak_ap, sCont_ap, sRet_ap, sRetN_ap, sIf_ap, sExpr_ap, nxK_some, sAsg_ap, gNm_ap, own_false, own_val, own_cell, own_fr, sPar2_ap, sPar3_ap, par2K_ap, par3K_ap, gVals_nil, gVK_some, gVals_cons, gTu_tup, gTu_lst, gTu_fr, finF_nx, finF_ex, finF_rt, finR_val, finR_fr, finF_if, mCallF_ap, mMake_ap, mMeth_ap, clsOf_obj, mAttr_ap, finA_obj, ite_true', ite_false', ite_T, ite_F, sFor_ap, iVal_ap, finI_lst, finI_fr, finI_tup, decide_eq_true_eq, Bool.not_eq_true', decide_eq_false_iff_not, Nat.reduceAdd, mLm_ap, lmK_cell, isLst_lst, finLm0, finLm1, finLm2, lm3K_lst, lm4K_some, get_end, set_end, is_non, isnot_non, isNon_non, isNon_int, isNon_tup, isNon_obj, eq_bb, Bool.not_true, Bool.not_false, e1, e2, e3, finT4, i30, d0, d1, d2, d3]
  by_cases c3 : fo = 3
  · skip
    have d0 : decide (fo = 0) = false := decide_eq_false (by omega)
    have d1 : decide (fo = 1) = false := decide_eq_false (by omega)
    have d2 : decide (fo = 2) = false := decide_eq_false (by omega)
    have d3 : decide (fo = 3) = true := decide_eq_true (by omega)
    refine go (a) (b) ⟨fa, fb⟩ fun X hX => ?_
    rw [← hX]
    unfold c_l_pair_of
    simp only [mVar_ap, slotM_some, List.getElem?_cons_zero, List.getElem?_cons_succ, List.set_cons_zero, List.set_cons_succ, mK_ap, andThen_ok, andThen_if, exThen_ok, exThen_if, vw_val, vw_fr, vw_cell, cellV_lst, cellV_frz, rt_val, rt_fr, rt_cell, fin2_ap, fin2K_some, opK_some, fin1_ap, op1K_some, mOp2_ap, mOp1_ap, add_ii, sub_ii, neg_i, not_b, lt_ii, le_ii, gt_ii, ge_ii, eq_ii, ne_ii, ix_lst, Sz.ix_tup, ix_scr, omap_some, atI0, atI1, atI2, bl?_bl, tBl_ap, tBlK_some, tNotM_ap, tAndM_ap, tOrM_ap, tTrue_ap, mIf_ap, mAnd_ap, mOr_ap, andK_some, orK_some, mArgs_nil, mArgs_cons, mOwns_nil, mOwns_cons, mList_ap, mTup_ap, mCallB_ap, finL1, finL2, finL3, finL4, finL5, finT2, finT3, vwK_some, vws_nil, vws_cons, opsK_some, finB_ap, len_scr, len_lst, len_tup, abs_i, min_ii, max_ii, int_b, int_i, seqK_nx, seqK_rt, seqK_ex, seqK_bk, seqK_ct, seqK_if, sSeq_ap, sNil_ap, sPass_ap, sBreak_ap, sCont_ap, sRet_ap, sRetN_ap, sIf_ap, sExpr_ap, nxK_some, sAsg_ap, gNm_ap, own_false, own_val, own_cell, own_fr, sPar2_ap, sPar3_ap, par2K_ap, par3K_ap, gVals_nil, gVK_some, gVals_cons, gTu_tup, gTu_lst, gTu_fr, finF_nx, finF_ex, finF_rt, finR_val, finR_fr, finF_if, mCallF_ap, mMake_ap, mMeth_ap, clsOf_obj, mAttr_ap, finA_obj, ite_true', ite_false', ite_T, ite_F, sFor_ap, iVal_ap, finI_lst, finI_fr, finI_tup, decide_eq_true_eq, Bool.not_eq_true', decide_eq_false_iff_not, Nat.reduceAdd, mLm_ap, lmK_cell, isLst_lst, finLm0, finLm1, finLm2, lm3K_lst, lm4K_some, get_end, set_end, is_non, isnot_non, isNon_non, isNon_int, isNon_tup, isNon_obj, eq_bb, Bool.not_true, Bool.not_false, e1, e2, e3, finT4, i30, d0, d1, d2, d3]
  · skip
    have d0 : decide (fo = 0) = false := decide_eq_false (by omega)
    have d1 : decide (fo = 1) = false := decide_eq_false (by omega)
    have d2 : decide (fo = 2) = false := decide_eq_false (by omega)
    have d3 : decide (fo = 3) = false := decide_eq_false (by omega)
    refine go (c) (d) ⟨fc, fd⟩ fun X hX => ?_
    rw [← hX]
    unfold c_l_pair_of
    simp only [mVar_ap, slotM_some, List.getElem?_cons_zero, List.getElem?_cons_succ, List.set_cons_zero, List.set_cons_succ, mK_ap, andThen_ok, andThen_if, exThen_ok, exThen_if, vw_val, vw_fr, vw_cell, cellV_lst, cellV_frz, rt_val, rt_fr, rt_cell, fin2_ap, fin2K_some, opK_some, fin1_ap, op1K_some, mOp2_ap, mOp1_ap, add_ii, sub_ii, neg_i, not_b, lt_ii, le_ii, gt_ii, ge_ii, eq_ii, ne_ii, ix_lst, Sz.ix_tup, ix_scr, omap_some, atI0, atI1, atI2, bl?_bl, tBl_ap, tBlK_some, tNotM_ap, tAndM_ap, tOrM_ap, tTrue_ap, mIf_ap, mAnd_ap, mOr_ap, andK_some, orK_some, mArgs_nil, mArgs_cons, mOwns_nil, mOwns_cons, mList_ap, mTup_ap, mCallB_ap, finL1, finL2, finL3, finL4, finL5, finT2, finT3, vwK_some, vws_nil, vws_cons, opsK_some, finB_ap, len_scr, len_lst, len_tup, abs_i, min_ii, max_ii, int_b, int_i, seqK_nx, seqK_rt, seqK_ex, seqK_bk, seqK_ct, seqK_if, sSeq_ap, sNil_ap, sPass_ap, sBreak_ap, sCont_ap, sRet_ap, sRetN_ap, sIf_ap, sExpr_ap, nxK_some, sAsg_ap, gNm_ap, own_false, own_val, own_cell, own_fr, sPar2_ap, sPar3_ap, par2K_ap, par3K_ap, gVals_nil, gVK_some, gVals_cons, gTu_tup, gTu_lst, gTu_fr, finF_nx, finF_ex, finF_rt, finR_val, finR_fr, finF_if, mCallF_ap, mMake_ap, mMeth_ap, clsOf_obj, mAttr_ap, finA_obj, ite_true', ite_false', ite_T, ite_F, sFor_ap, iVal_ap, finI_lst, finI_fr, finI_tup, decide_eq_true_eq, Bool.not_eq_true', decide_eq_false_iff_not, Nat.reduceAdd, mLm_ap, lmK_cell, isLst_lst, finLm0, finLm1, finLm2, lm3K_lst, lm4K_some, get_end, set_end, is_non, isnot_non, isNon_non, isNon_int, isNon_tup, isNon_obj, eq_bb, Bool.not_true, Bool.not_false, e1, e2, e3, finT4, i30, d0, d1, d2, d3]
section
variable {a b a' b' : Option (Int × Int)} {ia ib ia' ib' : Bool} {m n : Nat} {z : Int × Int}
theorem lt_trans3 {x y z : Int × Int} (hx : 0 < x.2) (hy : 0 < y.2) (hz : 0 < z.2) (h1 : x.1 * y.2 < y.1 * x.2) (h2 : y.1 * z.2 ≤ z.1 * y.2) : x.1 * z.2 < z.1 * x.2 := by
  have k1 := Int.mul_lt_mul_of_pos_right h1 hz
  have k2 := Int.mul_le_mul_of_nonneg_right h2 (Int.le_of_lt hx)
  have q1 : x.1 * y.2 * z.2 = (x.1 * z.2) * y.2 := by ac_rfl
  have q2 : y.1 * x.2 * z.2 = y.1 * z.2 * x.2 := by ac_rfl
  have q3 : z.1 * y.2 * x.2 = (z.1 * x.2) * y.2 := by ac_rfl
  rw [q1, q2] at k1
  rw [q3] at k2
  exact Int.lt_of_mul_lt_mul_right (Int.lt_of_lt_of_le k1 k2) (Int.le_of_lt hy)
theorem lt_trans4 {x y z : Int × Int} (hx : 0 < x.2) (hy : 0 < y.2) (hz : 0 < z.2) (h1 : x.1 * y.2 ≤ y.1 * x.2) (h2 : y.1 * z.2 < z.1 * y.2) : x.1 * z.2 < z.1 * x.2 := by
  have k1 := Int.mul_le_mul_of_nonneg_right h1 (Int.le_of_lt hz)
  have k2 := Int.mul_lt_mul_of_pos_right h2 hx
  have q1 : x.1 * y.2 * z.2 = (x.1 * z.2) * y.2 := by ac_rfl
  have q2 : y.1 * x.2 * z.2 = y.1 * z.2 * x.2 := by ac_rfl
  have q3 : z.1 * y.2 * x.2 = (z.1 * x.2) * y.2 := by ac_rfl
  rw [q1, q2] at k1
  rw [q3] at k2
  exact Int.lt_of_mul_lt_mul_right (Int.lt_of_le_of_lt k1 k2) (Int.le_of_lt hy)
theorem eq_trans3 {x y z : Int × Int} (hx : 0 < x.2) (hy : 0 < y.2) (hz : 0 < z.2) (h1 : x.1 * y.2 = y.1 * x.2) (h2 : y.1 * z.2 = z.1 * y.2) : x.1 * z.2 = z.1 * x.2 := by
  have q1 : (x.1 * z.2) * y.2 = (x.1 * y.2) * z.2 := by ac_rfl
  have q2 : (z.1 * x.2) * y.2 = (z.1 * y.2) * x.2 := by ac_rfl
  have : (x.1 * z.2) * y.2 = (z.1 * x.2) * y.2 := by
    rw [q1, q2, h1, ← h2]
    ac_rfl
  exact Int.eq_of_mul_eq_mul_right (by omega) this
/-- what is behind the later begin is behind both -/
theorem lo_both (fa : FrE m n a) (fa' : FrE m n a') (hz : 0 < z.2) (h : loB z (beginL a ia a' ia').2 (beginL a ia a' ia').1 = true) : loB z ia a = true ∧ loB z ia' a' = true := by
  cases a with
  | none => exact ⟨rfl, h⟩
  | some x =>
    cases a' with
    | none => exact ⟨h, rfl⟩
    | some y =>
      have px := fa.2.2
      have py := fa'.2.2
      unfold beginL at h
      dsimp only at h
      by_cases h1 : x.1 * y.2 < y.1 * x.2
      · rw [if_pos h1] at h
        refine ⟨?_, h⟩
        replace h : (decide (y.1 * z.2 < z.1 * y.2) || (ia' && decide (y.1 * z.2 = z.1 * y.2))) = true := h
        show (decide (x.1 * z.2 < z.1 * x.2) || (ia && decide (x.1 * z.2 = z.1 * x.2))) = true
        have : y.1 * z.2 ≤ z.1 * y.2 := by
          rw [Bool.or_eq_true, Bool.and_eq_true, decide_eq_true_eq, decide_eq_true_eq] at h
          omega
        rw [decide_eq_true (lt_trans3 px py hz h1 this), Bool.true_or]
      · rw [if_neg h1] at h
        by_cases h2 : x.1 * y.2 = y.1 * x.2
        · rw [if_pos h2] at h
          replace h : (decide (x.1 * z.2 < z.1 * x.2) || ((ia && ia') && decide (x.1 * z.2 = z.1 * x.2))) = true := h
          show (decide (x.1 * z.2 < z.1 * x.2) || (ia && decide (x.1 * z.2 = z.1 * x.2))) = true ∧ (decide (y.1 * z.2 < z.1 * y.2) || (ia' && decide (y.1 * z.2 = z.1 * y.2))) = true
          rw [Bool.or_eq_true, Bool.and_eq_true, Bool.and_eq_true, decide_eq_true_eq, decide_eq_true_eq] at h
          rcases h with h | ⟨⟨rfl, rfl⟩, h⟩
          · have h4 := lt_trans4 (x := y) (y := x) (z := z) py px hz (Int.le_of_eq h2.symm) h
            rw [decide_eq_true h, decide_eq_true h4]
            exact ⟨rfl, rfl⟩
          · have h4 := eq_trans3 (x := y) (y := x) (z := z) py px hz h2.symm h
            rw [decide_eq_true h, decide_eq_true h4]
            exact ⟨by simp, by simp⟩
        · rw [if_neg h2] at h
          refine ⟨h, ?_⟩
          replace h : (decide (x.1 * z.2 < z.1 * x.2) || (ia && decide (x.1 * z.2 = z.1 * x.2))) = true := h
          show (decide (y.1 * z.2 < z.1 * y.2) || (ia' && decide (y.1 * z.2 = z.1 * y.2))) = true
          have : x.1 * z.2 ≤ z.1 * x.2 := by
            rw [Bool.or_eq_true, Bool.and_eq_true, decide_eq_true_eq, decide_eq_true_eq] at h
            omega
          rw [decide_eq_true (lt_trans3 (x := y) (y := x) (z := z) py px hz (by omega) this), Bool.true_or]
theorem hi_both (fb : FrE m n b) (fb' : FrE m n b') (hz : 0 < z.2) (h : hiB z (endL b ib b' ib').2 (endL b ib b' ib').1 = true) : hiB z ib b = true ∧ hiB z ib' b' = true := by
  cases b with
  | none => exact ⟨rfl, h⟩
  | some x =>
    cases b' with
    | none => exact ⟨h, rfl⟩
    | some y =>
      have px := fb.2.2
      have py := fb'.2.2
      unfold endL at h
      dsimp only at h
      by_cases h1 : y.1 * x.2 < x.1 * y.2
      · rw [if_pos h1] at h
        refine ⟨?_, h⟩
        replace h : (decide (z.1 * y.2 < y.1 * z.2) || (ib' && decide (z.1 * y.2 = y.1 * z.2))) = true := h
        show (decide (z.1 * x.2 < x.1 * z.2) || (ib && decide (z.1 * x.2 = x.1 * z.2))) = true
        have : z.1 * y.2 ≤ y.1 * z.2 := by
          rw [Bool.or_eq_true, Bool.and_eq_true, decide_eq_true_eq, decide_eq_true_eq] at h
          omega
        rw [decide_eq_true (lt_trans4 (x := z) (y := y) (z := x) hz py px this h1), Bool.true_or]
      · rw [if_neg h1] at h
        by_cases h2 : x.1 * y.2 = y.1 * x.2
        · rw [if_pos h2] at h
          replace h : (decide (z.1 * x.2 < x.1 * z.2) || ((ib && ib') && decide (z.1 * x.2 = x.1 * z.2))) = true := h
          show (decide (z.1 * x.2 < x.1 * z.2) || (ib && decide (z.1 * x.2 = x.1 * z.2))) = true ∧ (decide (z.1 * y.2 < y.1 * z.2) || (ib' && decide (z.1 * y.2 = y.1 * z.2))) = true
          rw [Bool.or_eq_true, Bool.and_eq_true, Bool.and_eq_true, decide_eq_true_eq, decide_eq_true_eq] at h
          rcases h with h | ⟨⟨rfl, rfl⟩, h⟩
          · have h4 := lt_trans3 (x := z) (y := x) (z := y) hz px py h (Int.le_of_eq h2)
            rw [decide_eq_true h, decide_eq_true h4]
            exact ⟨rfl, rfl⟩
          · have h4 := eq_trans3 (x := z) (y := x) (z := y) hz px py h h2
            rw [decide_eq_true h, decide_eq_true h4]
            exact ⟨by simp, by simp⟩
        · rw [if_neg h2] at h
          refine ⟨h, ?_⟩
          replace h : (decide (z.1 * x.2 < x.1 * z.2) || (ib && decide (z.1 * x.2 = x.1 * z.2))) = true := h
          show (decide (z.1 * y.2 < y.1 * z.2) || (ib' && decide (z.1 * y.2 = y.1 * z.2))) = true
          have : z.1 * x.2 ≤ x.1 * z.2 := by
            rw [Bool.or_eq_true, Bool.and_eq_true, decide_eq_true_eq, decide_eq_true_eq] at h
            omega
          rw [decide_eq_true (lt_trans4 (x := z) (y := x) (z := y) hz px py this (by omega)), Bool.true_or]
end
theorem IsM.to {n : Nat} {v w p q a b : Int} (h : IsM n v w p q) (hq : q ≠ 0) (e : p * b = a * q) : IsM n v w a b := by
  refine ⟨h.pos, ?_, h.b1, h.b2, h.low⟩
  have h1 : v * b * q = a * w * q := by
    have : v * b * q = (v * q) * b := by ac_rfl
    rw [this, h.eq]
    have : p * w * b = (p * b) * w := by ac_rfl
    rw [this, e]
    ac_rfl
  exact Int.eq_of_mul_eq_mul_right hq h1
theorem IsM.mono {n m : Nat} {v w a b : Int} (h : IsM n v w a b) (e : n ≤ m) : IsM m v w a b := ⟨h.pos, h.eq, h.b1.mono e, h.b2.mono e, h.low⟩
section
variable {n : Nat} {t u x y a b c d : Int}
theorem sum_eq (e1 : t * b = a * u) (e2 : x * d = c * y) : (t * y + x * u) * (b * d) = (a * d + c * b) * (u * y) := by
  rw [Int.add_mul, Int.add_mul]
  have k1 : t * y * (b * d) = (t * b) * (y * d) := by ac_rfl
  have k2 : x * u * (b * d) = (x * d) * (u * b) := by ac_rfl
  rw [k1, k2, e1, e2]
  congr 1 <;> ac_rfl
theorem dif_eq (e1 : t * b = a * u) (e2 : x * d = c * y) : (t * y - x * u) * (b * d) = (a * d - c * b) * (u * y) := by
  rw [Int.sub_mul, Int.sub_mul]
  have k1 : t * y * (b * d) = (t * b) * (y * d) := by ac_rfl
  have k2 : x * u * (b * d) = (x * d) * (u * b) := by ac_rfl
  rw [k1, k2, e1, e2]
  congr 1 <;> ac_rfl
theorem pro_eq (e1 : t * b = a * u) (e2 : x * d = c * y) : (t * x) * (b * d) = (a * c) * (u * y) := by
  have k1 : t * x * (b * d) = (t * b) * (x * d) := by ac_rfl
  rw [k1, e1, e2]
  ac_rfl
theorem par_eq {m : Int} (e1 : t * b = a * u) : t * (b * m) = a * (u * m) := by
  have k1 : t * (b * m) = (t * b) * m := by ac_rfl
  rw [k1, e1]
  ac_rfl
theorem plus_sem (h1 : IsM n t u a b) (h2 : IsM n x y c d) (hn : n ≤ 4000) : ∃ v w, (∀ μ : Sto, fi_Measure_plus.sem [.val (Ob t u), .val (Ob x y)] μ = some (.ok (.val (Ob v w)), μ)) ∧ IsM (n + n + 1) v w (a * d + c * b) (b * d) := by
  have q1 := mul_bd n n h1.b1 h2.b2 (by omega)
  have q2 := mul_bd n n h2.b1 h1.b2 (by omega)
  have q3 := mul_bd n n h1.b2 h2.b2 (by omega)
  have hq : u * y ≠ 0 := Int.mul_ne_zero (by have := h1.pos; omega) (by have := h2.pos; omega)
  obtain ⟨v, w, e, i⟩ := make_ex (n := n + n + 1) hq ((h1.b1.mul h2.b2).add (h2.b1.mul h1.b2)) ((h1.b2.mul h2.b2).mono (by omega)) (by omega)
  refine ⟨v, w, fun μ => ?_, i.to hq (sum_eq h1.eq h2.eq)⟩
  rw [show fi_Measure_plus.sem [.val (Ob t u), .val (Ob x y)] μ = finF μ.length (c_Measure_plus [some (.val (Ob t u)), some (.val (Ob x y))] μ) from rfl]
  unfold c_Measure_plus
  simp only [mVar_ap, slotM_some, List.getElem?_cons_zero, List.getElem?_cons_succ, List.set_cons_zero, List.set_cons_succ, mK_ap, andThen_ok, andThen_if, exThen_ok, exThen_if, vw_val, vw_fr, vw_cell, cellV_lst, cellV_frz, rt_val, rt_fr, rt_cell, fin2_ap, fin2K_some, opK_some, fin1_ap, op1K_some, mOp2_ap, mOp1_ap, add_ii, sub_ii, neg_i, not_b, lt_ii, le_ii, gt_ii, ge_ii, eq_ii, ne_ii, ix_lst, Sz.ix_tup, ix_scr, omap_some, atI0, atI1, atI2, bl?_bl, tBl_ap, tBlK_some, tNotM_ap, tAndM_ap, tOrM_ap, tTrue_ap, mIf_ap, mAnd_ap, mOr_ap, andK_some, orK_some, mArgs_nil, mArgs_cons, mOwns_nil, mOwns_cons, mList_ap, mTup_ap, mCallB_ap, finL1, finL2, finL3, finL4, finL5, finT2, finT3, vwK_some, vws_nil, vws_cons, opsK_some, finB_ap, len_scr, len_lst, len_tup, abs_i, min_ii, max_ii, int_b, int_i, seqK_nx, seqK_rt, seqK_ex, seqK_bk, seqK_ct, seqK_if, sSeq_ap, sNil_ap, sPass_ap, sBreak_ap, sCont_ap, sRet_ap, sRetN_ap, sIf_ap, sExpr_ap, nxK_some, sAsg_ap, gNm_ap, own_false, own_val, own_cell, own_fr, sPar2_ap, sPar3_ap, par2K_ap, par3K_ap, gVals_nil, gVK_some, gVals_cons, gTu_tup, gTu_lst, gTu_fr, finF_nx, finF_ex, finF_rt, finR_val, finR_fr, finF_if, mCallF_ap, mMake_ap, mMeth_ap, clsOf_obj, mAttr_ap, finA_obj, ite_true', ite_false', ite_T, ite_F, sFor_ap, iVal_ap, finI_lst, finI_fr, finI_tup, decide_eq_true_eq, Bool.not_eq_true', decide_eq_false_iff_not, Nat.reduceAdd, mLm_ap, lmK_cell, isLst_lst, finLm0, finLm1, finLm2, lm3K_lst, lm4K_some, get_end, set_end, is_non, isnot_non, isNon_non, isNon_int, isNon_tup, isNon_obj, eq_bb, Bool.not_true, Bool.not_false, fld_top, fld_bottom, q1, q2, q3, e]
  rw [List.take_length]
theorem minus_sem (h1 : IsM n t u a b) (h2 : IsM n x y c d) (hn : n ≤ 4000) : ∃ v w, (∀ μ : Sto, fi_Measure_minus.sem [.val (Ob t u), .val (Ob x y)] μ = some (.ok (.val (Ob v w)), μ)) ∧ IsM (n + n + 1) v w (a * d - c * b) (b * d) := by
  have q1 := mul_bd n n h1.b1 h2.b2 (by omega)
  have q2 := mul_bd n n h2.b1 h1.b2 (by omega)
  have q3 := mul_bd n n h1.b2 h2.b2 (by omega)
  have hq : u * y ≠ 0 := Int.mul_ne_zero (by have := h1.pos; omega) (by have := h2.pos; omega)
  obtain ⟨v, w, e, i⟩ := make_ex (n := n + n + 1) hq ((h1.b1.mul h2.b2).sub (h2.b1.mul h1.b2)) ((h1.b2.mul h2.b2).mono (by omega)) (by omega)
  refine ⟨v, w, fun μ => ?_, i.to hq (dif_eq h1.eq h2.eq)⟩
  rw [show fi_Measure_minus.sem [.val (Ob t u), .val (Ob x y)] μ = finF μ.length (c_Measure_minus [some (.val (Ob t u)), some (.val (Ob x y))] μ) from rfl]
  unfold c_Measure_minus
  simp only [mVar_ap, slotM_some, List.getElem?_cons_zero, List.getElem?_cons_succ, List.set_cons_zero, List.set_cons_succ, mK_ap, andThen_ok, andThen_if, exThen_ok, exThen_if, vw_val, vw_fr, vw_cell, cellV_lst, cellV_frz, rt_val, rt_fr, rt_cell, fin2_ap, fin2K_some, opK_some, fin1_ap, op1K_some, mOp2_ap, mOp1_ap, add_ii, sub_ii, neg_i, not_b, lt_ii, le_ii, gt_ii, ge_ii, eq_ii, ne_ii, ix_lst, Sz.ix_tup, ix_scr, omap_some, atI0, atI1, atI2, bl?_bl, tBl_ap, tBlK_some, tNotM_ap, tAndM_ap, tOrM_ap, tTrue_ap, mIf_ap, mAnd_ap, mOr_ap, andK_some, orK_some, mArgs_nil, mArgs_cons, mOwns_nil, mOwns_cons, mList_ap, mTup_ap, mCallB_ap, finL1, finL2, finL3, finL4, finL5, finT2, finT3, vwK_some, vws_nil, vws_cons, opsK_some, finB_ap, len_scr, len_lst, len_tup, abs_i, min_ii, max_ii, int_b, int_i, seqK_nx, seqK_rt, seqK_ex, seqK_bk, seqK_ct, seqK_if, sSeq_ap, sNil_ap, sPass_ap, sBreak_ap, sCont_ap, sRet_ap, sRetN_ap, sIf_ap, sExpr_ap, nxK_some, sAsg_ap, gNm_ap, own_false, own_val, own_cell, own_fr, sPar2_ap, sPar3_ap, par2K_ap, par3K_ap, gVals_nil, gVK_some, gVals_cons, gTu_tup, gTu_lst, gTu_fr, finF_nx, finF_ex, finF_rt, finR_val, finR_fr, finF_if, mCallF_ap, mMake_ap, mMeth_ap, clsOf_obj, mAttr_ap, finA_obj, ite_true', ite_false', ite_T, ite_F, sFor_ap, iVal_ap, finI_lst, finI_fr, finI_tup, decide_eq_true_eq, Bool.not_eq_true', decide_eq_false_iff_not, Nat.reduceAdd, mLm_ap, lmK_cell, isLst_lst, finLm0, finLm1, finLm2, lm3K_lst, lm4K_some, get_end, set_end, is_non, isnot_non, isNon_non, isNon_int, isNon_tup, isNon_obj, eq_bb, Bool.not_true, Bool.not_false, fld_top, fld_bottom, q1, q2, q3, e]
  rw [List.take_length]
theorem parted_sem {m : Int} (h1 : IsM n t u a b) (hm : m ≠ 0) (bm : Bd n m) (hn : n ≤ 4000) : ∃ v w, (∀ μ : Sto, fi_Measure_parted.sem [.val (Ob t u), .val (.int m)] μ = some (.ok (.val (Ob v w)), μ)) ∧ IsM (n + n) v w a (b * m) := by
  have q3 := mul_bd n n h1.b2 bm (by omega)
  have hq : u * m ≠ 0 := Int.mul_ne_zero (by have := h1.pos; omega) hm
  obtain ⟨v, w, e, i⟩ := make_ex (n := n + n) hq (h1.b1.mono (by omega)) (h1.b2.mul bm) (by omega)
  refine ⟨v, w, fun μ => ?_, i.to hq (par_eq h1.eq)⟩
  rw [show fi_Measure_parted.sem [.val (Ob t u), .val (.int m)] μ = finF μ.length (c_Measure_parted [some (.val (Ob t u)), some (.val (.int m))] μ) from rfl]
  unfold c_Measure_parted
  simp only [mVar_ap, slotM_some, List.getElem?_cons_zero, List.getElem?_cons_succ, List.set_cons_zero, List.set_cons_succ, mK_ap, andThen_ok, andThen_if, exThen_ok, exThen_if, vw_val, vw_fr, vw_cell, cellV_lst, cellV_frz, rt_val, rt_fr, rt_cell, fin2_ap, fin2K_some, opK_some, fin1_ap, op1K_some, mOp2_ap, mOp1_ap, add_ii, sub_ii, neg_i, not_b, lt_ii, le_ii, gt_ii, ge_ii, eq_ii, ne_ii, ix_lst, Sz.ix_tup, ix_scr, omap_some, atI0, atI1, atI2, bl?_bl, tBl_ap, tBlK_some, tNotM_ap, tAndM_ap, tOrM_ap, tTrue_ap, mIf_ap, mAnd_ap, mOr_ap, andK_some, orK_some, mArgs_nil, mArgs_cons, mOwns_nil, mOwns_cons, mList_ap, mTup_ap, mCallB_ap, finL1, finL2, finL3, finL4, finL5, finT2, finT3, vwK_some, vws_nil, vws_cons, opsK_some, finB_ap, len_scr, len_lst, len_tup, abs_i, min_ii, max_ii, int_b, int_i, seqK_nx, seqK_rt, seqK_ex, seqK_bk, seqK_ct, seqK_if, sSeq_ap, sNil_ap, sPass_ap, sBreak_ap, sCont_ap, sRet_ap, sRetN_ap, sIf_ap, sExpr_ap, nxK_some, sAsg_ap, gNm_ap, own_false, own_val, own_cell, own_fr, sPar2_ap, sPar3_ap, par2K_ap, par3K_ap, gVals_nil, gVK_some, gVals_cons, gTu_tup, gTu_lst, gTu_fr, finF_nx, finF_ex, finF_rt, finR_val, finR_fr, finF_if, mCallF_ap, mMake_ap, mMeth_ap, clsOf_obj, mAttr_ap, finA_obj, ite_true', ite_false', ite_T, ite_F, sFor_ap, iVal_ap, finI_lst, finI_fr, finI_tup, decide_eq_true_eq, Bool.not_eq_true', decide_eq_false_iff_not, Nat.reduceAdd, mLm_ap, lmK_cell, isLst_lst, finLm0, finLm1, finLm2, lm3K_lst, lm4K_some, get_end, set_end, is_non, isnot_non, isNon_non, isNon_int, isNon_tup, isNon_obj, eq_bb, Bool.not_true, Bool.not_false, fld_top, fld_bottom, q3, e]
  rw [List.take_length]
end
theorem make1 {a : Int} {μ : Sto} : callM mk_Measure 1 [] [.val (.int a)] [] μ = callM mk_Measure 2 [] [.val (.int a), .val (.int 1)] [] μ :=
  (show callM mk_Measure 1 [] [.val (.int a)] [] μ = finM mk_Measure μ.length (fi_Measure___init__.sem [.cell μ.length, .val (.int a), .val (.int 1)] (μ ++ [.ins 0 []])) from callM_eq rfl rfl rfl).trans
    (show callM mk_Measure 2 [] [.val (.int a), .val (.int 1)] [] μ = finM mk_Measure μ.length (fi_Measure___init__.sem [.cell μ.length, .val (.int a), .val (.int 1)] (μ ++ [.ins 0 []])) from callM_eq rfl rfl rfl).symm
theorem nought_call : ∃ t u, (∀ μ : Sto, callF fi_nought 0 [] [] [] μ = some (.ok (.val (Ob t u)), μ)) ∧ IsM 300 t u 0 1 := by
  obtain ⟨t, u, e, i⟩ := make_ex (n := 300) (a := 0) (b := 1) (by decide) (bdl (by decide)) (bdl (by decide))
  refine ⟨t, u, fun μ => ?_, i⟩
  rw [show callF fi_nought 0 [] [] [] μ = fi_nought.sem [] μ from callF_eq rfl rfl rfl]
  rw [show fi_nought.sem [] μ = finF μ.length (c_nought [] μ) from rfl]
  unfold c_nought
  simp only [mVar_ap, slotM_some, List.getElem?_cons_zero, List.getElem?_cons_succ, List.set_cons_zero, List.set_cons_succ, mK_ap, andThen_ok, andThen_if, exThen_ok, exThen_if, vw_val, vw_fr, vw_cell, cellV_lst, cellV_frz, rt_val, rt_fr, rt_cell, fin2_ap, fin2K_some, opK_some, fin1_ap, op1K_some, mOp2_ap, mOp1_ap, add_ii, sub_ii, neg_i, not_b, lt_ii, le_ii, gt_ii, ge_ii, eq_ii, ne_ii, ix_lst, Sz.ix_tup, ix_scr, omap_some, atI0, atI1, atI2, bl?_bl, tBl_ap, tBlK_some, tNotM_ap, tAndM_ap, tOrM_ap, tTrue_ap, mIf_ap, mAnd_ap, mOr_ap, andK_some, orK_some, mArgs_nil, mArgs_cons, mOwns_nil, mOwns_cons, mList_ap, mTup_ap, mCallB_ap, finL1, finL2, finL3, finL4, finL5, finT2, finT3, vwK_some, vws_nil, vws_cons, opsK_some, finB_ap, len_scr, len_lst, len_tup, abs_i, min_ii, max_ii, int_b, int_i, seqK_nx, seqK_rt, seqK_ex, seqK_bk, seqK_ct, seqK_if, sSeq_ap, sNil_ap, sPass_ap, sBreak_ap, sCont_ap, sRet_ap, sRetN_ap, sIf_ap, sExpr_ap, nxK_some, sAsg_ap, gNm_ap, own_false, own_val, own_cell, own_fr, sPar2_ap, sPar3_ap, par2K_ap, par3K_ap, gVals_nil, gVK_some, gVals_cons, gTu_tup, gTu_lst, gTu_fr, finF_nx, finF_ex, finF_rt, finR_val, finR_fr, finF_if, mCallF_ap, mMake_ap, mMeth_ap, clsOf_obj, mAttr_ap, finA_obj, ite_true', ite_false', ite_T, ite_F, sFor_ap, iVal_ap, finI_lst, finI_fr, finI_tup, decide_eq_true_eq, Bool.not_eq_true', decide_eq_false_iff_not, Nat.reduceAdd, mLm_ap, lmK_cell, isLst_lst, finLm0, finLm1, finLm2, lm3K_lst, lm4K_some, get_end, set_end, is_non, isnot_non, isNon_non, isNon_int, isNon_tup, isNon_obj, eq_bb, Bool.not_true, Bool.not_false, make1, e]
  rw [List.take_length]
theorem unit_call : ∃ t u, (∀ μ : Sto, callF fi_unit 0 [] [] [] μ = some (.ok (.val (Ob t u)), μ)) ∧ IsM 300 t u 1 1 := by
  obtain ⟨t, u, e, i⟩ := make_ex (n := 300) (a := 1) (b := 1) (by decide) (bdl (by decide)) (bdl (by decide))
  refine ⟨t, u, fun μ => ?_, i⟩
  rw [show callF fi_unit 0 [] [] [] μ = fi_unit.sem [] μ from callF_eq rfl rfl rfl]
  rw [show fi_unit.sem [] μ = finF μ.length (c_unit [] μ) from rfl]
  unfold c_unit
  simp only [mVar_ap, slotM_some, List.getElem?_cons_zero, List.getElem?_cons_succ, List.set_cons_zero, List.set_cons_succ, mK_ap, andThen_ok, andThen_if, exThen_ok, exThen_if, vw_val, vw_fr, vw_cell, cellV_lst, cellV_frz, rt_val, rt_fr, rt_cell, fin2_ap, fin2K_some, opK_some, fin1_ap, op1K_some, mOp2_ap, mOp1_ap, add_ii, sub_ii, neg_i, not_b, lt_ii, le_ii, gt_ii, ge_ii, eq_ii, ne_ii, ix_lst, Sz.ix_tup, ix_scr, omap_some, atI0, atI1, atI2, bl?_bl, tBl_ap, tBlK_some, tNotM_ap, tAndM_ap, tOrM_ap, tTrue_ap, mIf_ap, mAnd_ap, mOr_ap, andK_some, orK_some, mArgs_nil, mArgs_cons, mOwns_nil, mOwns_cons, mList_ap, mTup_ap, mCallB_ap, finL1, finL2, finL3, finL4, finL5, finT2, finT3, vwK_some, vws_nil, vws_cons, opsK_some, finB_ap, len_scr, len_lst, len_tup, abs_i, min_ii, max_ii, int_b, int_i, seqK_nx, seqK_rt, seqK_ex, seqK_bk, seqK_ct, seqK_if, sSeq_ap, sNil_ap, sPass_ap, sBreak_ap, sCont_ap, sRet_ap, sRetN_ap, sIf_ap, sExpr_ap, nxK_some, sAsg_ap, gNm_ap, own_false, own_val, own_cell, own_fr, sPar2_ap, sPar3_ap, par2K_ap, par3K_ap, gVals_nil, gVK_some, gVals_cons, gTu_tup, gTu_lst, gTu_fr, finF_nx, finF_ex, finF_rt, finR_val, finR_fr, finF_if, mCallF_ap, mMake_ap, mMeth_ap, clsOf_obj, mAttr_ap, finA_obj, ite_true', ite_false', ite_T, ite_F, sFor_ap, iVal_ap, finI_lst, finI_fr, finI_tup, decide_eq_true_eq, Bool.not_eq_true', decide_eq_false_iff_not, Nat.reduceAdd, mLm_ap, lmK_cell, isLst_lst, finLm0, finLm1, finLm2, lm3K_lst, lm4K_some, get_end, set_end, is_non, isnot_non, isNon_non, isNon_int, isNon_tup, isNon_obj, eq_bb, Bool.not_true, Bool.not_false, make1, e]
  rw [List.take_length]
section
variable {p q : D} {m : Int} {μ : Sto}
theorem c_plus2 : callF fi_Measure_plus 2 [] [.val p, .val q] [] μ = fi_Measure_plus.sem [.val p, .val q] μ := callF_eq rfl rfl rfl
theorem c_minus2 : callF fi_Measure_minus 2 [] [.val p, .val q] [] μ = fi_Measure_minus.sem [.val p, .val q] μ := callF_eq rfl rfl rfl
theorem c_parted1 : callF fi_Measure_parted 1 [] [.val p] [] μ = fi_Measure_parted.sem [.val p, .val (.int 2)] μ := callF_eq rfl rfl rfl
end
theorem mtp : mt_plus 0 = some fi_Measure_plus := rfl
theorem mtm : mt_minus 0 = some fi_Measure_minus := rfl
theorem mtd : mt_parted 0 = some fi_Measure_parted := rfl
theorem midst_call {t u x y : Int} {p q : Int × Int} (h1 : IsM 300 t u p.1 p.2) (h2 : IsM 300 x y q.1 q.2) : ∃ v w, (∀ μ : Sto, callF fi_midst 2 [] [.val (Ob t u), .val (Ob x y)] [] μ = some (.ok (.val (Ob v w)), μ)) ∧ IsM 2000 v w (p.1 * q.2 + q.1 * p.2) (p.2 * q.2 * 2) := by
  obtain ⟨v1, w1, z1, j1⟩ := plus_sem h1 h2 (by decide)
  obtain ⟨v, w, z2, j2⟩ := parted_sem (m := 2) j1 (by decide) (bdl (by decide)) (by decide)
  refine ⟨v, w, fun μ => ?_, j2.mono (by decide)⟩
  rw [show callF fi_midst 2 [] [.val (Ob t u), .val (Ob x y)] [] μ = fi_midst.sem [.val (Ob t u), .val (Ob x y)] μ from callF_eq rfl rfl rfl]
  rw [show fi_midst.sem [.val (Ob t u), .val (Ob x y)] μ = finF μ.length (c_midst [some (.val (Ob t u)), some (.val (Ob x y))] μ) from rfl]
  unfold c_midst
  simp only [mVar_ap, slotM_some, List.getElem?_cons_zero, List.getElem?_cons_succ, List.set_cons_zero, List.set_cons_succ, mK_ap, andThen_ok, andThen_if, exThen_ok, exThen_if, vw_val, vw_fr, vw_cell, cellV_lst, cellV_frz, rt_val, rt_fr, rt_cell, fin2_ap, fin2K_some, opK_some, fin1_ap, op1K_some, mOp2_ap, mOp1_ap, add_ii, sub_ii, neg_i, not_b, lt_ii, le_ii, gt_ii, ge_ii, eq_ii, ne_ii, ix_lst, Sz.ix_tup, ix_scr, omap_some, atI0, atI1, atI2, bl?_bl, tBl_ap, tBlK_some, tNotM_ap, tAndM_ap, tOrM_ap, tTrue_ap, mIf_ap, mAnd_ap, mOr_ap, andK_some, orK_some, mArgs_nil, mArgs_cons, mOwns_nil, mOwns_cons, mList_ap, mTup_ap, mCallB_ap, finL1, finL2, finL3, finL4, finL5, finT2, finT3, vwK_some, vws_nil, vws_cons, opsK_some, finB_ap, len_scr, len_lst, len_tup, abs_i, min_ii, max_ii, int_b, int_i, seqK_nx, seqK_rt, seqK_ex, seqK_bk, seqK_ct, seqK_if, sSeq_ap, sNil_ap, sPass_ap, sBreak_ap, sCont_ap, sRet_ap, sRetN_ap, sIf_ap, sExpr_ap, nxK_some, sAsg_ap, gNm_ap, own_false, own_val, own_cell, own_fr, sPar2_ap, sPar3_ap, par2K_ap, par3K_ap, gVals_nil, gVK_some, gVals_cons, gTu_tup, gTu_lst, gTu_fr, finF_nx, finF_ex, finF_rt, finR_val, finR_fr, finF_if, mCallF_ap, mMake_ap, mMeth_ap, clsOf_obj, mAttr_ap, finA_obj, ite_true', ite_false', ite_T, ite_F, sFor_ap, iVal_ap, finI_lst, finI_fr, finI_tup, decide_eq_true_eq, Bool.not_eq_true', decide_eq_false_iff_not, Nat.reduceAdd, mLm_ap, lmK_cell, isLst_lst, finLm0, finLm1, finLm2, lm3K_lst, lm4K_some, get_end, set_end, is_non, isnot_non, isNon_non, isNon_int, isNon_tup, isNon_obj, eq_bb, Bool.not_true, Bool.not_false, methK_some mtp, methK_some mtd, c_plus2, z1, c_parted1, z2]
  rw [List.take_length]
/-- a measure in lowest terms is behind, ahead just as its fraction is -/
theorem loB_to {n : Nat} {t u p q : Int} {i : Bool} {r : Option (Int × Int)} {m k : Nat} (h : IsM n t u p q) (hq : 0 < q) (f : FrE m k r) (e : loB (p, q) i r = true) : loB (t, u) i r = true := by
  cases r with
  | none => rfl
  | some x =>
    replace e : (decide (x.1 * q < p * x.2) || (i && decide (x.1 * q = p * x.2))) = true := e
    show (decide (x.1 * u < t * x.2) || (i && decide (x.1 * u = t * x.2))) = true
    have k1 := lt_cong (t := x.1) (u := x.2) (x := t) (y := u) (a := x.1) (b := x.2) (c := p) (d := q) rfl h.eq f.2.2 h.pos f.2.2 hq
    have k2 := eq_cong (t := x.1) (u := x.2) (x := t) (y := u) (a := x.1) (b := x.2) (c := p) (d := q) rfl h.eq f.2.2 h.pos f.2.2 hq
    rw [decide_eq_decide.mpr k1, decide_eq_decide.mpr k2]
    exact e
theorem hiB_to {n : Nat} {t u p q : Int} {i : Bool} {r : Option (Int × Int)} {m k : Nat} (h : IsM n t u p q) (hq : 0 < q) (f : FrE m k r) (e : hiB (p, q) i r = true) : hiB (t, u) i r = true := by
  cases r with
  | none => rfl
  | some x =>
    replace e : (decide (p * x.2 < x.1 * q) || (i && decide (p * x.2 = x.1 * q))) = true := e
    show (decide (t * x.2 < x.1 * u) || (i && decide (t * x.2 = x.1 * u))) = true
    have k1 := lt_cong (t := t) (u := u) (x := x.1) (y := x.2) (a := p) (b := q) (c := x.1) (d := x.2) h.eq rfl h.pos f.2.2 hq f.2.2
    have k2 := eq_cong (t := t) (u := u) (x := x.1) (y := x.2) (a := p) (b := q) (c := x.1) (d := x.2) h.eq rfl h.pos f.2.2 hq f.2.2
    rw [decide_eq_decide.mpr k1, decide_eq_decide.mpr k2]
    exact e
theorem mid_in {x y : Int × Int} {i j : Bool} (hx : 0 < x.2) (hy : 0 < y.2) (h : someB (some x) (some y) i j = true) : loB (x.1 * y.2 + y.1 * x.2, x.2 * y.2 * 2) i (some x) = true ∧ hiB (x.1 * y.2 + y.1 * x.2, x.2 * y.2 * 2) j (some y) = true := by
  replace h : (decide (x.1 * y.2 < y.1 * x.2) || (decide (x.1 * y.2 = y.1 * x.2) && (i && j))) = true := h
  show (decide (x.1 * (x.2 * y.2 * 2) < (x.1 * y.2 + y.1 * x.2) * x.2) || (i && decide (x.1 * (x.2 * y.2 * 2) = (x.1 * y.2 + y.1 * x.2) * x.2))) = true ∧
    (decide ((x.1 * y.2 + y.1 * x.2) * y.2 < y.1 * (x.2 * y.2 * 2)) || (j && decide ((x.1 * y.2 + y.1 * x.2) * y.2 = y.1 * (x.2 * y.2 * 2)))) = true
  have r1 : x.1 * (x.2 * y.2 * 2) = (x.1 * y.2 + x.1 * y.2) * x.2 := by
    have : x.1 * (x.2 * y.2 * 2) = (x.1 * y.2 * x.2) * 2 := by ac_rfl
    rw [this, Int.add_mul]
    omega
  have r2 : y.1 * (x.2 * y.2 * 2) = (y.1 * x.2 + y.1 * x.2) * y.2 := by
    have : y.1 * (x.2 * y.2 * 2) = (y.1 * x.2 * y.2) * 2 := by ac_rfl
    rw [this, Int.add_mul]
    omega
  rw [r1, r2]
  generalize x.1 * y.2 = A at *
  generalize y.1 * x.2 = B at *
  rw [Bool.or_eq_true, Bool.and_eq_true, Bool.and_eq_true, decide_eq_true_eq, decide_eq_true_eq] at h
  rcases h with h | ⟨h, rfl, rfl⟩
  · have h1 : (A + A) * x.2 < (A + B) * x.2 := Int.mul_lt_mul_of_pos_right (by omega) hx
    have h2 : (A + B) * y.2 < (B + B) * y.2 := Int.mul_lt_mul_of_pos_right (by omega) hy
    rw [decide_eq_true h1, decide_eq_true h2]
    exact ⟨rfl, rfl⟩
  · subst h
    simp
/-- a measure in the stretch: what inner tells -/
theorem inner_call {a b : Option (Int × Int)} {da db : D} {ia ib : Bool} (oa : ObE 300 a da) (ob : ObE 300 b db) (fa : FrE 300 300 a) (fb : FrE 300 300 b) (hs : someB a b ia ib = true) (f1 f2 : Bool) : ∃ t u, (∀ μ : Sto, callF fi_inner 1 [] [.val (Str4 da db f1 f2)] [] μ = some (.ok (.val (Ob t u)), μ)) ∧ Bd 2000 t ∧ Bd 2000 u ∧ 0 < u ∧ loB (t, u) ia a = true ∧ hiB (t, u) ib b = true := by
  have st : ∀ μ : Sto, callF fi_inner 1 [] [.val (Str4 da db f1 f2)] [] μ = finF μ.length (c_inner [some (.val (Str4 da db f1 f2))] μ) := fun μ =>
    (show callF fi_inner 1 [] [.val (Str4 da db f1 f2)] [] μ = fi_inner.sem [.val (Str4 da db f1 f2)] μ from callF_eq rfl rfl rfl).trans rfl
  cases a with
  | none =>
    cases oa
    cases b with
    | none =>
      cases ob
      obtain ⟨t, u, e, i⟩ := nought_call
      refine ⟨t, u, fun μ => ?_, i.b1.mono (by decide), i.b2.mono (by decide), i.pos, rfl, rfl⟩
      rw [st]
      unfold c_inner
      simp only [mVar_ap, slotM_some, List.getElem?_cons_zero, List.getElem?_cons_succ, List.set_cons_zero, List.set_cons_succ, mK_ap, andThen_ok, andThen_if, exThen_ok, exThen_if, vw_val, vw_fr, vw_cell, cellV_lst, cellV_frz, rt_val, rt_fr, rt_cell, fin2_ap, fin2K_some, opK_some, fin1_ap, op1K_some, mOp2_ap, mOp1_ap, add_ii, sub_ii, neg_i, not_b, lt_ii, le_ii, gt_ii, ge_ii, eq_ii, ne_ii, ix_lst, Sz.ix_tup, ix_scr, omap_some, atI0, atI1, atI2, bl?_bl, tBl_ap, tBlK_some, tNotM_ap, tAndM_ap, tOrM_ap, tTrue_ap, mIf_ap, mAnd_ap, mOr_ap, andK_some, orK_some, mArgs_nil, mArgs_cons, mOwns_nil, mOwns_cons, mList_ap, mTup_ap, mCallB_ap, finL1, finL2, finL3, finL4, finL5, finT2, finT3, vwK_some, vws_nil, vws_cons, opsK_some, finB_ap, len_scr, len_lst, len_tup, abs_i, min_ii, max_ii, int_b, int_i, seqK_nx, seqK_rt, seqK_ex, seqK_bk, seqK_ct, seqK_if, sSeq_ap, sNil_ap, sPass_ap, sBreak_ap, sCont_ap, sRet_ap, sRetN_ap, sIf_ap, sExpr_ap, nxK_some, sAsg_ap, gNm_ap, own_false, own_val, own_cell, own_fr, sPar2_ap, sPar3_ap, par2K_ap, par3K_ap, gVals_nil, gVK_some, gVals_cons, gTu_tup, gTu_lst, gTu_fr, finF_nx, finF_ex, finF_rt, finR_val, finR_fr, finF_if, mCallF_ap, mMake_ap, mMeth_ap, clsOf_obj, mAttr_ap, finA_obj, ite_true', ite_false', ite_T, ite_F, sFor_ap, iVal_ap, finI_lst, finI_fr, finI_tup, decide_eq_true_eq, Bool.not_eq_true', decide_eq_false_iff_not, Nat.reduceAdd, mLm_ap, lmK_cell, isLst_lst, finLm0, finLm1, finLm2, lm3K_lst, lm4K_some, get_end, set_end, is_non, isnot_non, isNon_non, isNon_int, isNon_tup, isNon_obj, eq_bb, Bool.not_true, Bool.not_false, fld_low, fld_high, e]
      rw [List.take_length]
    | some y =>
      obtain ⟨t, u, rfl, i, p⟩ := ob
      obtain ⟨t1, u1, e, i1⟩ := unit_call
      obtain ⟨v, w, z, j⟩ := minus_sem i i1 (by decide)
      refine ⟨v, w, fun μ => ?_, j.b1.mono (by decide), j.b2.mono (by decide), j.pos, rfl, hiB_to j (by omega) fb ?_⟩
      · rw [st]
        unfold c_inner
        simp only [mVar_ap, slotM_some, List.getElem?_cons_zero, List.getElem?_cons_succ, List.set_cons_zero, List.set_cons_succ, mK_ap, andThen_ok, andThen_if, exThen_ok, exThen_if, vw_val, vw_fr, vw_cell, cellV_lst, cellV_frz, rt_val, rt_fr, rt_cell, fin2_ap, fin2K_some, opK_some, fin1_ap, op1K_some, mOp2_ap, mOp1_ap, add_ii, sub_ii, neg_i, not_b, lt_ii, le_ii, gt_ii, ge_ii, eq_ii, ne_ii, ix_lst, Sz.ix_tup, ix_scr, omap_some, atI0, atI1, atI2, bl?_bl, tBl_ap, tBlK_some, tNotM_ap, tAndM_ap, tOrM_ap, tTrue_ap, mIf_ap, mAnd_ap, mOr_ap, andK_some, orK_some, mArgs_nil, mArgs_cons, mOwns_nil, mOwns_cons, mList_ap, mTup_ap, mCallB_ap, finL1, finL2, finL3, finL4, finL5, finT2, finT3, vwK_some, vws_nil, vws_cons, opsK_some, finB_ap, len_scr, len_lst, len_tup, abs_i, min_ii, max_ii, int_b, int_i, seqK_nx, seqK_rt, seqK_ex, seqK_bk, seqK_ct, seqK_if, sSeq_ap, sNil_ap, sPass_ap, sBreak_ap, sCont_ap, sRet_ap, sRetN_ap, sIf_ap, sExpr_ap, nxK_some, sAsg_ap, gNm_ap, own_false, own_val, own_cell, own_fr, sPar2_ap, sPar3_ap, par2K_ap, par3K_ap, gVals_nil, gVK_some, gVals_cons, gTu_tup, gTu_lst, gTu_fr, finF_nx, finF_ex, finF_rt, finR_val, finR_fr, finF_if, mCallF_ap, mMake_ap, mMeth_ap, clsOf_obj, mAttr_ap, finA_obj, ite_true', ite_false', ite_T, ite_F, sFor_ap, iVal_ap, finI_lst, finI_fr, finI_tup, decide_eq_true_eq, Bool.not_eq_true', decide_eq_false_iff_not, Nat.reduceAdd, mLm_ap, lmK_cell, isLst_lst, finLm0, finLm1, finLm2, lm3K_lst, lm4K_some, get_end, set_end, is_non, isnot_non, isNon_non, isNon_int, isNon_tup, isNon_obj, eq_bb, Bool.not_true, Bool.not_false, fld_low, fld_high, e, methK_some mtm, c_minus2, z]
        rw [List.take_length]
      · show (decide ((y.1 * 1 - 1 * y.2) * y.2 < y.1 * (y.2 * 1)) || _) = true
        have h : (y.1 * 1 - 1 * y.2) * y.2 < y.1 * (y.2 * 1) := by
          rw [Int.mul_one, Int.mul_one, Int.one_mul]
          exact Int.mul_lt_mul_of_pos_right (by omega) p
        rw [decide_eq_true h, Bool.true_or]
  | some x =>
    obtain ⟨t, u, rfl, i, p⟩ := oa
    cases b with
    | none =>
      cases ob
      obtain ⟨t1, u1, e, i1⟩ := unit_call
      obtain ⟨v, w, z, j⟩ := plus_sem i i1 (by decide)
      refine ⟨v, w, fun μ => ?_, j.b1.mono (by decide), j.b2.mono (by decide), j.pos, loB_to j (by omega) fa ?_, rfl⟩
      · rw [st]
        unfold c_inner
        simp only [mVar_ap, slotM_some, List.getElem?_cons_zero, List.getElem?_cons_succ, List.set_cons_zero, List.set_cons_succ, mK_ap, andThen_ok, andThen_if, exThen_ok, exThen_if, vw_val, vw_fr, vw_cell, cellV_lst, cellV_frz, rt_val, rt_fr, rt_cell, fin2_ap, fin2K_some, opK_some, fin1_ap, op1K_some, mOp2_ap, mOp1_ap, add_ii, sub_ii, neg_i, not_b, lt_ii, le_ii, gt_ii, ge_ii, eq_ii, ne_ii, ix_lst, Sz.ix_tup, ix_scr, omap_some, atI0, atI1, atI2, bl?_bl, tBl_ap, tBlK_some, tNotM_ap, tAndM_ap, tOrM_ap, tTrue_ap, mIf_ap, mAnd_ap, mOr_ap, andK_some, orK_some, mArgs_nil, mArgs_cons, mOwns_nil, mOwns_cons, mList_ap, mTup_ap, mCallB_ap, finL1, finL2, finL3, finL4, finL5, finT2, finT3, vwK_some, vws_nil, vws_cons, opsK_some, finB_ap, len_scr, len_lst, len_tup, abs_i, min_ii, max_ii, int_b, int_i, seqK_nx, seqK_rt, seqK_ex, seqK_bk, seqK_ct, seqK_if, sSeq_ap, sNil_ap, sPass_ap, sBreak_ap, sCont_ap, sRet_ap, sRetN_ap, sIf_ap, sExpr_ap, nxK_some, sAsg_ap, gNm_ap, own_false, own_val, own_cell, own_fr, sPar2_ap, sPar3_ap, par2K_ap, par3K_ap, gVals_nil, gVK_some, gVals_cons, gTu_tup, gTu_lst, gTu_fr, finF_nx, finF_ex, finF_rt, finR_val, finR_fr, finF_if, mCallF_ap, mMake_ap, mMeth_ap, clsOf_obj, mAttr_ap, finA_obj, ite_true', ite_false', ite_T, ite_F, sFor_ap, iVal_ap, finI_lst, finI_fr, finI_tup, decide_eq_true_eq, Bool.not_eq_true', decide_eq_false_iff_not, Nat.reduceAdd, mLm_ap, lmK_cell, isLst_lst, finLm0, finLm1, finLm2, lm3K_lst, lm4K_some, get_end, set_end, is_non, isnot_non, isNon_non, isNon_int, isNon_tup, isNon_obj, eq_bb, Bool.not_true, Bool.not_false, fld_low, fld_high, e, methK_some mtp, c_plus2, z]
        rw [List.take_length]
      · show (decide (x.1 * (x.2 * 1) < (x.1 * 1 + 1 * x.2) * x.2) || _) = true
        have h : x.1 * (x.2 * 1) < (x.1 * 1 + 1 * x.2) * x.2 := by
          rw [Int.mul_one, Int.mul_one, Int.one_mul]
          exact Int.mul_lt_mul_of_pos_right (by omega) p
        rw [decide_eq_true h, Bool.true_or]
    | some y =>
      obtain ⟨t', u', rfl, i', p'⟩ := ob
      obtain ⟨v, w, e, j⟩ := midst_call i i'
      obtain ⟨k1, k2⟩ := mid_in p p' hs
      have hq : 0 < x.2 * y.2 * 2 := Int.mul_pos (Int.mul_pos p p') (by decide)
      refine ⟨v, w, fun μ => ?_, j.b1, j.b2, j.pos, loB_to j hq fa k1, hiB_to j hq fb k2⟩
      rw [st]
      unfold c_inner
      simp only [mVar_ap, slotM_some, List.getElem?_cons_zero, List.getElem?_cons_succ, List.set_cons_zero, List.set_cons_succ, mK_ap, andThen_ok, andThen_if, exThen_ok, exThen_if, vw_val, vw_fr, vw_cell, cellV_lst, cellV_frz, rt_val, rt_fr, rt_cell, fin2_ap, fin2K_some, opK_some, fin1_ap, op1K_some, mOp2_ap, mOp1_ap, add_ii, sub_ii, neg_i, not_b, lt_ii, le_ii, gt_ii, ge_ii, eq_ii, ne_ii, ix_lst, Sz.ix_tup, ix_scr, omap_some, atI0, atI1, atI2, bl?_bl, tBl_ap, tBlK_some, tNotM_ap, tAndM_ap, tOrM_ap, tTrue_ap, mIf_ap, mAnd_ap, mOr_ap, andK_some, orK_some, mArgs_nil, mArgs_cons, mOwns_nil, mOwns_cons, mList_ap, mTup_ap, mCallB_ap, finL1, finL2, finL3, finL4, finL5, finT2, finT3, vwK_some, vws_nil, vws_cons, opsK_some, finB_ap, len_scr, len_lst, len_tup, abs_i, min_ii, max_ii, int_b, int_i, seqK_nx, seqK_rt, seqK_ex, seqK_bk, seqK_ct, seqK_if, sSeq_ap, sNil_ap, sPass_ap, sBreak_ap, sCont_ap, sRet_ap, sRetN_ap, sIf_ap, sExpr_ap, nxK_some, sAsg_ap, gNm_ap, own_false, own_val, own_cell, own_fr, sPar2_ap, sPar3_ap, par2K_ap, par3K_ap, gVals_nil, gVK_some, gVals_cons, gTu_tup, gTu_lst, gTu_fr, finF_nx, finF_ex, finF_rt, finR_val, finR_fr, finF_if, mCallF_ap, mMake_ap, mMeth_ap, clsOf_obj, mAttr_ap, finA_obj, ite_true', ite_false', ite_T, ite_F, sFor_ap, iVal_ap, finI_lst, finI_fr, finI_tup, decide_eq_true_eq, Bool.not_eq_true', decide_eq_false_iff_not, Nat.reduceAdd, mLm_ap, lmK_cell, isLst_lst, finLm0, finLm1, finLm2, lm3K_lst, lm4K_some, get_end, set_end, is_non, isnot_non, isNon_non, isNon_int, isNon_tup, isNon_obj, eq_bb, Bool.not_true, Bool.not_false, fld_low, fld_high, e]
      rw [List.take_length]
section
variable {a b a' b' : Option (Int × Int)} {ia ib ia' ib' : Bool} {da db da' db' out : D}
theorem mtcut : mt_cut 1 = some fi_Stretch_cut := rfl
theorem cu2 {p q : D} {μ : Sto} : callF fi_Stretch_cut 2 [] [.val p, .val q] [] μ = fi_Stretch_cut.sem [.val p, .val q] μ := callF_eq rfl rfl rfl
def cutB (a b : Option (Int × Int)) (ia ib : Bool) (a' b' : Option (Int × Int)) (ia' ib' : Bool) : Bool := someB (beginL a ia a' ia').1 (endL b ib b' ib').1 (beginL a ia a' ia').2 (endL b ib b' ib').2
theorem cutB_sym (fa : FrE 300 300 a) (fb : FrE 300 300 b) (fa' : FrE 300 300 a') (fb' : FrE 300 300 b') : cutB a' b' ia' ib' a b ia ib = cutB a b ia ib a' b' ia' ib' := by
  obtain ⟨s1, s2⟩ := beginL_sym (a := a) (a' := a') (ia := ia) (ia' := ia')
  obtain ⟨s3, s4⟩ := endL_sym (a := b) (a' := b') (ia := ib) (ia' := ib')
  exact someB_cong (beginL_fr (ia := ia') (ia' := ia) fa' fa) (endL_fr (ia := ib') (ia' := ib) fb' fb) (beginL_fr (ia := ia) (ia' := ia') fa fa') (endL_fr (ia := ib) (ia' := ib') fb fb') s1 s3 s2 s4
theorem cutB_self (h : someB a b ia ib = true) : cutB a b ia ib a b ia ib = true := by
  unfold cutB
  rw [beginL_self.1, beginL_self.2, endL_self.1, endL_self.2]
  exact h
theorem meets_sem (oa : ObE 300 a da) (ob : ObE 300 b db) (oa' : ObE 300 a' da') (ob' : ObE 300 b' db') (μ : Sto) : fi_Stretch_meets.sem [.val (So a b da db ia ib), .val (So a' b' da' db' ia' ib')] μ = some (.ok (.val (.bl (cutB a b ia ib a' b' ia' ib'))), μ) := by
  obtain ⟨o, z, c⟩ := cut_sem (ia := ia) (ib := ib) (ia' := ia') (ib' := ib') oa ob oa' ob' (by decide)
  rw [show fi_Stretch_meets.sem [.val (So a b da db ia ib), .val (So a' b' da' db' ia' ib')] μ = finF μ.length (c_Stretch_meets [some (.val (So a b da db ia ib)), some (.val (So a' b' da' db' ia' ib'))] μ) from rfl]
  unfold c_Stretch_meets
  have hn : (!Sz.isNon o) = cutB a b ia ib a' b' ia' ib' := by
    unfold cutB
    rcases c with ⟨hB, d, e, rfl, _⟩ | ⟨hB, rfl⟩
    · rw [hB]; rfl
    · rw [hB]; rfl
  simp only [mVar_ap, slotM_some, List.getElem?_cons_zero, List.getElem?_cons_succ, List.set_cons_zero, List.set_cons_succ, mK_ap, andThen_ok, andThen_if, exThen_ok, exThen_if, vw_val, vw_fr, vw_cell, cellV_lst, cellV_frz, rt_val, rt_fr, rt_cell, fin2_ap, fin2K_some, opK_some, fin1_ap, op1K_some, mOp2_ap, mOp1_ap, add_ii, sub_ii, neg_i, not_b, lt_ii, le_ii, gt_ii, ge_ii, eq_ii, ne_ii, ix_lst, Sz.ix_tup, ix_scr, omap_some, atI0, atI1, atI2, bl?_bl, tBl_ap, tBlK_some, tNotM_ap, tAndM_ap, tOrM_ap, tTrue_ap, mIf_ap, mAnd_ap, mOr_ap, andK_some, orK_some, mArgs_nil, mArgs_cons, mOwns_nil, mOwns_cons, mList_ap, mTup_ap, mCallB_ap, finL1, finL2, finL3, finL4, finL5, finT2, finT3, vwK_some, vws_nil, vws_cons, opsK_some, finB_ap, len_scr, len_lst, len_tup, abs_i, min_ii, max_ii, int_b, int_i, seqK_nx, seqK_rt, seqK_ex, seqK_bk, seqK_ct, seqK_if, sSeq_ap, sNil_ap, sPass_ap, sBreak_ap, sCont_ap, sRet_ap, sRetN_ap, sIf_ap, sExpr_ap, nxK_some, sAsg_ap, gNm_ap, own_false, own_val, own_cell, own_fr, sPar2_ap, sPar3_ap, par2K_ap, par3K_ap, gVals_nil, gVK_some, gVals_cons, gTu_tup, gTu_lst, gTu_fr, finF_nx, finF_ex, finF_rt, finR_val, finR_fr, finF_if, mCallF_ap, mMake_ap, mMeth_ap, clsOf_obj, mAttr_ap, finA_obj, ite_true', ite_false', ite_T, ite_F, sFor_ap, iVal_ap, finI_lst, finI_fr, finI_tup, decide_eq_true_eq, Bool.not_eq_true', decide_eq_false_iff_not, Nat.reduceAdd, mLm_ap, lmK_cell, isLst_lst, finLm0, finLm1, finLm2, lm3K_lst, lm4K_some, get_end, set_end, is_non, isnot_non, isNon_non, isNon_int, isNon_tup, isNon_obj, eq_bb, Bool.not_true, Bool.not_false, methK_some mtcut, cu2, z, hn]
  rw [List.take_length]
/-- what shared tells -/
def ShOut (a b : Option (Int × Int)) (ia ib : Bool) (a' b' : Option (Int × Int)) (ia' ib' : Bool) (out : D) : Prop :=
  (cutB a b ia ib a' b' ia' ib' = true ∧ ∃ t u, out = Ob t u ∧ Bd 2000 t ∧ Bd 2000 u ∧ 0 < u ∧ inB a b ia ib (t, u) = true ∧ inB a' b' ia' ib' (t, u) = true) ∨ (cutB a b ia ib a' b' ia' ib' = false ∧ out = .non)
theorem shared_sem (oa : ObE 300 a da) (ob : ObE 300 b db) (oa' : ObE 300 a' da') (ob' : ObE 300 b' db') (fa : FrE 300 300 a) (fb : FrE 300 300 b) (fa' : FrE 300 300 a') (fb' : FrE 300 300 b') :
    ∃ out, (∀ μ : Sto, fi_Stretch_shared.sem [.val (So a b da db ia ib), .val (So a' b' da' db' ia' ib')] μ = some (.ok (.val out), μ)) ∧ ShOut a b ia ib a' b' ia' ib' out := by
  obtain ⟨o, z, c⟩ := cut_sem (ia := ia) (ib := ib) (ia' := ia') (ib' := ib') oa ob oa' ob' (by decide)
  have st : ∀ μ : Sto, fi_Stretch_shared.sem [.val (So a b da db ia ib), .val (So a' b' da' db' ia' ib')] μ = finF μ.length (c_Stretch_shared [some (.val (So a b da db ia ib)), some (.val (So a' b' da' db' ia' ib')), none] μ) := fun μ => rfl
  rcases c with ⟨hB, d, e, rfl, od, oe⟩ | ⟨hB, rfl⟩
  · have gf := beginL_fr (ia := ia) (ia' := ia') fa fa'
    have ef := endL_fr (ia := ib) (ia' := ib') fb fb'
    obtain ⟨t, u, k, b1, b2, pu, l1, l2⟩ := inner_call od oe gf ef hB ((beginL a ia a' ia').1.isSome && (beginL a ia a' ia').2) ((endL b ib b' ib').1.isSome && (endL b ib b' ib').2)
    obtain ⟨x1, x2⟩ := lo_both fa fa' pu l1
    obtain ⟨y1, y2⟩ := hi_both fb fb' pu l2
    refine ⟨Ob t u, fun μ => ?_, .inl ⟨hB, t, u, rfl, b1, b2, pu, ?_, ?_⟩⟩
    · rw [st]
      unfold c_Stretch_shared
      simp only [mVar_ap, slotM_some, List.getElem?_cons_zero, List.getElem?_cons_succ, List.set_cons_zero, List.set_cons_succ, mK_ap, andThen_ok, andThen_if, exThen_ok, exThen_if, vw_val, vw_fr, vw_cell, cellV_lst, cellV_frz, rt_val, rt_fr, rt_cell, fin2_ap, fin2K_some, opK_some, fin1_ap, op1K_some, mOp2_ap, mOp1_ap, add_ii, sub_ii, neg_i, not_b, lt_ii, le_ii, gt_ii, ge_ii, eq_ii, ne_ii, ix_lst, Sz.ix_tup, ix_scr, omap_some, atI0, atI1, atI2, bl?_bl, tBl_ap, tBlK_some, tNotM_ap, tAndM_ap, tOrM_ap, tTrue_ap, mIf_ap, mAnd_ap, mOr_ap, andK_some, orK_some, mArgs_nil, mArgs_cons, mOwns_nil, mOwns_cons, mList_ap, mTup_ap, mCallB_ap, finL1, finL2, finL3, finL4, finL5, finT2, finT3, vwK_some, vws_nil, vws_cons, opsK_some, finB_ap, len_scr, len_lst, len_tup, abs_i, min_ii, max_ii, int_b, int_i, seqK_nx, seqK_rt, seqK_ex, seqK_bk, seqK_ct, seqK_if, sSeq_ap, sNil_ap, sPass_ap, sBreak_ap, sCont_ap, sRet_ap, sRetN_ap, sIf_ap, sExpr_ap, nxK_some, sAsg_ap, gNm_ap, own_false, own_val, own_cell, own_fr, sPar2_ap, sPar3_ap, par2K_ap, par3K_ap, gVals_nil, gVK_some, gVals_cons, gTu_tup, gTu_lst, gTu_fr, finF_nx, finF_ex, finF_rt, finR_val, finR_fr, finF_if, mCallF_ap, mMake_ap, mMeth_ap, clsOf_obj, mAttr_ap, finA_obj, ite_true', ite_false', ite_T, ite_F, sFor_ap, iVal_ap, finI_lst, finI_fr, finI_tup, decide_eq_true_eq, Bool.not_eq_true', decide_eq_false_iff_not, Nat.reduceAdd, mLm_ap, lmK_cell, isLst_lst, finLm0, finLm1, finLm2, lm3K_lst, lm4K_some, get_end, set_end, is_non, isnot_non, isNon_non, isNon_int, isNon_tup, isNon_obj, eq_bb, Bool.not_true, Bool.not_false, methK_some mtcut, cu2, z, k]
      rw [List.take_length]
    · unfold inB; rw [x1, y1]; rfl
    · unfold inB; rw [x2, y2]; rfl
  · refine ⟨.non, fun μ => ?_, .inr ⟨hB, rfl⟩⟩
    rw [st]
    unfold c_Stretch_shared
    simp only [mVar_ap, slotM_some, List.getElem?_cons_zero, List.getElem?_cons_succ, List.set_cons_zero, List.set_cons_succ, mK_ap, andThen_ok, andThen_if, exThen_ok, exThen_if, vw_val, vw_fr, vw_cell, cellV_lst, cellV_frz, rt_val, rt_fr, rt_cell, fin2_ap, fin2K_some, opK_some, fin1_ap, op1K_some, mOp2_ap, mOp1_ap, add_ii, sub_ii, neg_i, not_b, lt_ii, le_ii, gt_ii, ge_ii, eq_ii, ne_ii, ix_lst, Sz.ix_tup, ix_scr, omap_some, atI0, atI1, atI2, bl?_bl, tBl_ap, tBlK_some, tNotM_ap, tAndM_ap, tOrM_ap, tTrue_ap, mIf_ap, mAnd_ap, mOr_ap, andK_some, orK_some, mArgs_nil, mArgs_cons, mOwns_nil, mOwns_cons, mList_ap, mTup_ap, mCallB_ap, finL1, finL2, finL3, finL4, finL5, finT2, finT3, vwK_some, vws_nil, vws_cons, opsK_some, finB_ap, len_scr, len_lst, len_tup, abs_i, min_ii, max_ii, int_b, int_i, seqK_nx, seqK_rt, seqK_ex, seqK_bk, seqK_ct, seqK_if, sSeq_ap, sNil_ap, sPass_ap, sBreak_ap, sCont_ap, sRet_ap, sRetN_ap, sIf_ap, sExpr_ap, nxK_some, sAsg_ap, gNm_ap, own_false, own_val, own_cell, own_fr, sPar2_ap, sPar3_ap, par2K_ap, par3K_ap, gVals_nil, gVK_some, gVals_cons, gTu_tup, gTu_lst, gTu_fr, finF_nx, finF_ex, finF_rt, finR_val, finR_fr, finF_if, mCallF_ap, mMake_ap, mMeth_ap, clsOf_obj, mAttr_ap, finA_obj, ite_true', ite_false', ite_T, ite_F, sFor_ap, iVal_ap, finI_lst, finI_fr, finI_tup, decide_eq_true_eq, Bool.not_eq_true', decide_eq_false_iff_not, Nat.reduceAdd, mLm_ap, lmK_cell, isLst_lst, finLm0, finLm1, finLm2, lm3K_lst, lm4K_some, get_end, set_end, is_non, isnot_non, isNon_non, isNon_int, isNon_tup, isNon_obj, eq_bb, Bool.not_true, Bool.not_false, methK_some mtcut, cu2, z]
    rw [List.take_length]
theorem isi_ob2 {t u : Int} : bIsi nKit nKit subK [Ob t u, .cls 0] = some (.val (.bl true)) := rfl
theorem shr_true {t u : Int} (bt : Bd 2000 t) (bu : Bd 2000 u) (pu : 0 < u) (h1 : inB a b ia ib (t, u) = true) (h2 : inB a' b' ia' ib' (t, u) = true) (fa : FrE 300 300 a) (fb : FrE 300 300 b) (fa' : FrE 300 300 a') (fb' : FrE 300 300 b') (μ : Sto) :
    callF fi_l_shared_right 4 [] [.val (Ob t u), .val (T4 a b ia ib), .val (T4 a' b' ia' ib'), .val (.bl true)] [] μ = some (.ok (.val (.bl true)), μ) := by
  rw [show callF fi_l_shared_right 4 [] [.val (Ob t u), .val (T4 a b ia ib), .val (T4 a' b' ia' ib'), .val (.bl true)] [] μ = fi_l_shared_right.sem [.val (Ob t u), .val (T4 a b ia ib), .val (T4 a' b' ia' ib'), .val (.bl true)] μ from callF_eq rfl rfl rfl]
  rw [show fi_l_shared_right.sem [.val (Ob t u), .val (T4 a b ia ib), .val (T4 a' b' ia' ib'), .val (.bl true)] μ = finF μ.length (c_l_shared_right [some (.val (Ob t u)), some (.val (T4 a b ia ib)), some (.val (T4 a' b' ia' ib')), some (.val (.bl true))] μ) from rfl]
  unfold c_l_shared_right
  have up : ∀ {x : Option (Int × Int)}, FrE 300 300 x → FrE 2000 2000 x := fun {x} h => by
    cases x with
    | none => trivial
    | some y => exact ⟨h.1.mono (by decide), h.2.1.mono (by decide), h.2.2⟩
  have k1 : ∀ ν : Sto, callF fi_l_in 2 [] [.val (T4 a b ia ib), .val (.tup [.int t, .int u])] [] ν = some (.ok (.val (.bl true)), ν) := fun ν => by
    have := in_call (ia := ia) (ib := ib) (z := (t, u)) (μ := ν) (up fa) (up fb) ⟨bt, bu, pu⟩ (by decide)
    rw [h1] at this
    exact this
  have k2 : ∀ ν : Sto, callF fi_l_in 2 [] [.val (T4 a' b' ia' ib'), .val (.tup [.int t, .int u])] [] ν = some (.ok (.val (.bl true)), ν) := fun ν => by
    have := in_call (ia := ia') (ib := ib') (z := (t, u)) (μ := ν) (up fa') (up fb') ⟨bt, bu, pu⟩ (by decide)
    rw [h2] at this
    exact this
  have hu : ¬ u < 1 := by omega
  simp only [mVar_ap, slotM_some, List.getElem?_cons_zero, List.getElem?_cons_succ, List.set_cons_zero, List.set_cons_succ, mK_ap, andThen_ok, andThen_if, exThen_ok, exThen_if, vw_val, vw_fr, vw_cell, cellV_lst, cellV_frz, rt_val, rt_fr, rt_cell, fin2_ap, fin2K_some, opK_some, fin1_ap, op1K_some, mOp2_ap, mOp1_ap, add_ii, sub_ii, neg_i, not_b, lt_ii, le_ii, gt_ii, ge_ii, eq_ii, ne_ii, ix_lst, Sz.ix_tup, ix_scr, omap_some, atI0, atI1, atI2, bl?_bl, tBl_ap, tBlK_some, tNotM_ap, tAndM_ap, tOrM_ap, tTrue_ap, mIf_ap, mAnd_ap, mOr_ap, andK_some, orK_some, mArgs_nil, mArgs_cons, mOwns_nil, mOwns_cons, mList_ap, mTup_ap, mCallB_ap, finL1, finL2, finL3, finL4, finL5, finT2, finT3, vwK_some, vws_nil, vws_cons, opsK_some, finB_ap, len_scr, len_lst, len_tup, abs_i, min_ii, max_ii, int_b, int_i, seqK_nx, seqK_rt, seqK_ex, seqK_bk, seqK_ct, seqK_if, sSeq_ap, sNil_ap, sPass_ap, sBreak_ap, sCont_ap, sRet_ap, sRetN_ap, sIf_ap, sExpr_ap, nxK_some, sAsg_ap, gNm_ap, own_false, own_val, own_cell, own_fr, sPar2_ap, sPar3_ap, par2K_ap, par3K_ap, gVals_nil, gVK_some, gVals_cons, gTu_tup, gTu_lst, gTu_fr, finF_nx, finF_ex, finF_rt, finR_val, finR_fr, finF_if, mCallF_ap, mMake_ap, mMeth_ap, clsOf_obj, mAttr_ap, finA_obj, ite_true', ite_false', ite_T, ite_F, sFor_ap, iVal_ap, finI_lst, finI_fr, finI_tup, decide_eq_true_eq, Bool.not_eq_true', decide_eq_false_iff_not, Nat.reduceAdd, mLm_ap, lmK_cell, isLst_lst, finLm0, finLm1, finLm2, lm3K_lst, lm4K_some, get_end, set_end, is_non, isnot_non, isNon_non, isNon_int, isNon_tup, isNon_obj, eq_bb, Bool.not_true, Bool.not_false, isi_ob2, fld_top, fld_bottom, hu, k1, k2]
  rw [List.take_length]
theorem shr_false (X Y : D) (μ : Sto) : callF fi_l_shared_right 4 [] [.val .non, .val X, .val Y, .val (.bl false)] [] μ = some (.ok (.val (.bl true)), μ) := by
  rw [show callF fi_l_shared_right 4 [] [.val .non, .val X, .val Y, .val (.bl false)] [] μ = fi_l_shared_right.sem [.val .non, .val X, .val Y, .val (.bl false)] μ from callF_eq rfl rfl rfl]
  rw [show fi_l_shared_right.sem [.val .non, .val X, .val Y, .val (.bl false)] μ = finF μ.length (c_l_shared_right [some (.val .non), some (.val X), some (.val Y), some (.val (.bl false))] μ) from rfl]
  unfold c_l_shared_right
  simp only [mVar_ap, slotM_some, List.getElem?_cons_zero, List.getElem?_cons_succ, List.set_cons_zero, List.set_cons_succ, mK_ap, andThen_ok, andThen_if, exThen_ok, exThen_if, vw_val, vw_fr, vw_cell, cellV_lst, cellV_frz, rt_val, rt_fr, rt_cell, fin2_ap, fin2K_some, opK_some, fin1_ap, op1K_some, mOp2_ap, mOp1_ap, add_ii, sub_ii, neg_i, not_b, lt_ii, le_ii, gt_ii, ge_ii, eq_ii, ne_ii, ix_lst, Sz.ix_tup, ix_scr, omap_some, atI0, atI1, atI2, bl?_bl, tBl_ap, tBlK_some, tNotM_ap, tAndM_ap, tOrM_ap, tTrue_ap, mIf_ap, mAnd_ap, mOr_ap, andK_some, orK_some, mArgs_nil, mArgs_cons, mOwns_nil, mOwns_cons, mList_ap, mTup_ap, mCallB_ap, finL1, finL2, finL3, finL4, finL5, finT2, finT3, vwK_some, vws_nil, vws_cons, opsK_some, finB_ap, len_scr, len_lst, len_tup, abs_i, min_ii, max_ii, int_b, int_i, seqK_nx, seqK_rt, seqK_ex, seqK_bk, seqK_ct, seqK_if, sSeq_ap, sNil_ap, sPass_ap, sBreak_ap, sCont_ap, sRet_ap, sRetN_ap, sIf_ap, sExpr_ap, nxK_some, sAsg_ap, gNm_ap, own_false, own_val, own_cell, own_fr, sPar2_ap, sPar3_ap, par2K_ap, par3K_ap, gVals_nil, gVK_some, gVals_cons, gTu_tup, gTu_lst, gTu_fr, finF_nx, finF_ex, finF_rt, finR_val, finR_fr, finF_if, mCallF_ap, mMake_ap, mMeth_ap, clsOf_obj, mAttr_ap, finA_obj, ite_true', ite_false', ite_T, ite_F, sFor_ap, iVal_ap, finI_lst, finI_fr, finI_tup, decide_eq_true_eq, Bool.not_eq_true', decide_eq_false_iff_not, Nat.reduceAdd, mLm_ap, lmK_cell, isLst_lst, finLm0, finLm1, finLm2, lm3K_lst, lm4K_some, get_end, set_end, is_non, isnot_non, isNon_non, isNon_int, isNon_tup, isNon_obj, eq_bb, Bool.not_true, Bool.not_false]
  rw [List.take_length]
end
theorem mtme : mt_meets 1 = some fi_Stretch_meets := rfl
theorem mtsh : mt_shared 1 = some fi_Stretch_shared := rfl
theorem me2 {p q : D} {μ : Sto} : callF fi_Stretch_meets 2 [] [.val p, .val q] [] μ = fi_Stretch_meets.sem [.val p, .val q] μ := callF_eq rfl rfl rfl
theorem me1 {p q : D} {μ : Sto} : callF fi_Stretch_meets 1 ["other"] [.val p] [.val q] μ = fi_Stretch_meets.sem [.val p, .val q] μ := callF_eq rfl rfl rfl
theorem sh2 {p q : D} {μ : Sto} : callF fi_Stretch_shared 2 [] [.val p, .val q] [] μ = fi_Stretch_shared.sem [.val p, .val q] μ := callF_eq rfl rfl rfl
theorem sh1 {p q : D} {μ : Sto} : callF fi_Stretch_shared 1 ["other"] [.val p] [.val q] μ = fi_Stretch_shared.sem [.val p, .val q] μ := callF_eq rfl rfl rfl
theorem ne_b3 {v : Bool} : dNe (.lst [.bl v, .bl v, .bl v]) (.lst [.bl v, .bl v, .bl v]) = some (.val (.bl false)) := by cases v <;> rfl
theorem mul_l3 {a : D} : dMul (.lst [a]) (.int 3) = some (.fr [a, a, a]) := by
  unfold dMul
  dsimp only
  exact if_pos ⟨by decide, by decide, by show 1 * 3 ≤ _; decide⟩
theorem isnotB_tt : dIsNotB (.bl true) (.bl true) = some (.val (.bl false)) := rfl
theorem isNon_cut {a b a' b' : Option (Int × Int)} {ia ib ia' ib' : Bool} : (!Sz.isNon (cutD' a b ia ib a' b' ia' ib')) = cutB a b ia ib a' b' ia' ib' := by
  unfold cutD' cutB
  split
  · rename_i h; rw [h]; rfl
  · rename_i h
    have := Bool.eq_false_iff.mpr h
    rw [this]; rfl
def Sl10 (ns : List Int) (ρ : En) : Prop := ∃ s1 s2 s3 s4 s5 s6 s7 s8 s9 : Option S, ρ = [some (.val (.scr ns)), s1, s2, s3, s4, s5, s6, s7, s8, s9]
theorem rangeD_mem {lo : Int} {n : Nat} {d : D} (h : d ∈ rangeD lo n) : ∃ i : Nat, i < n ∧ d = .int (lo + i) := by
  unfold rangeD at h
  obtain ⟨i, hi, rfl⟩ := List.mem_map.mp h
  exact ⟨i, List.mem_range.mp hi, rfl⟩
theorem FrE.up {m n m' n' : Nat} {x : Option (Int × Int)} (h : FrE m n x) (a : m ≤ m') (b : n ≤ n') : FrE m' n' x := by
  cases x with
  | none => trivial
  | some y => exact ⟨h.1.mono a, h.2.1.mono b, h.2.2⟩
theorem outer {ns : List Int} {i : Nat} {ρ : En} {μ : Sto} (h : Sl10 ns ρ) : ∃ ρ1 μ1, gNm 1 false (.val (.int (i : Int))) ρ μ = some (ρ1, μ1) ∧ ∃ ρ2 μ2, c_law_b1 ρ1 μ1 = some (.nx, ρ2, μ2) ∧ Sl10 ns ρ2 := by
  obtain ⟨s1, s2, s3, s4, s5, s6, s7, s8, s9, rfl⟩ := h
  refine ⟨_, _, rfl, ?_⟩
  unfold c_law_b1
  obtain ⟨h0, h1, e1, r1, r2⟩ := hand_call (μ := μ) (ns := ns) (k := i)
  have H0 : HandAt (μ ++ [.lst [.int h0, .int h1, .int 0]]) μ.length 0 := ⟨h0, h1, 0, get_end, r1, r2, by omega, by omega⟩
  obtain ⟨a, b, ia, ib, a', b', ia', ib', μ1, e2, g1, g2, H1, u1⟩ := pair_call H0 (by decide)
  have Fa := g1.fa.up (show 150 ≤ 300 by decide) (show 40 ≤ 300 by decide)
  have Fb := g1.fb.up (show 150 ≤ 300 by decide) (show 40 ≤ 300 by decide)
  have Fa' := g2.fa.up (show 150 ≤ 300 by decide) (show 40 ≤ 300 by decide)
  have Fb' := g2.fb.up (show 150 ≤ 300 by decide) (show 40 ≤ 300 by decide)
  obtain ⟨da, db, m1, oa, ob⟩ := made_call Fa Fb (by decide) g1.ok
  obtain ⟨da', db', m2, oa', ob'⟩ := made_call Fa' Fb' (by decide) g2.ok
  have e4 := cut_call (ia := ia) (ib := ib) (ia' := ia') (ib' := ib') Fa Fb Fa' Fb' (by decide)
  have k1 := meets_sem (ia := ia) (ib := ib) (ia' := ia') (ib' := ib') oa ob oa' ob'
  have k2 := meets_sem (ia := ia') (ib := ib') (ia' := ia) (ib' := ib) oa' ob' oa ob
  have k3 := meets_sem (ia := ia) (ib := ib) (ia' := ia) (ib' := ib) oa ob oa ob
  rw [cutB_sym Fa Fb Fa' Fb'] at k2
  rw [cutB_self g1.ok] at k3
  obtain ⟨o1, z1, c1⟩ := shared_sem (ia := ia) (ib := ib) (ia' := ia') (ib' := ib') oa ob oa' ob' Fa Fb Fa' Fb'
  obtain ⟨o2, z2, c2⟩ := shared_sem (ia := ia') (ib := ib') (ia' := ia) (ib' := ib) oa' ob' oa ob Fa' Fb' Fa Fb
  obtain ⟨o3, z3, c3⟩ := shared_sem (ia := ia') (ib := ib') (ia' := ia') (ib' := ib') oa' ob' oa' ob' Fa' Fb' Fa' Fb'
  have R1 : ∀ μ : Sto, callF fi_l_shared_right 4 [] [.val o1, .val (T4 a b ia ib), .val (T4 a' b' ia' ib'), .val (.bl (cutB a b ia ib a' b' ia' ib'))] [] μ = some (.ok (.val (.bl true)), μ) := fun μ => by
    rcases c1 with ⟨hB, t, u, rfl, x1, x2, x3, x4, x5⟩ | ⟨hB, rfl⟩
    · rw [hB]; exact shr_true x1 x2 x3 x4 x5 Fa Fb Fa' Fb' μ
    · rw [hB]; exact shr_false _ _ μ
  have R2 : ∀ μ : Sto, callF fi_l_shared_right 4 [] [.val o2, .val (T4 a b ia ib), .val (T4 a' b' ia' ib'), .val (.bl (cutB a b ia ib a' b' ia' ib'))] [] μ = some (.ok (.val (.bl true)), μ) := fun μ => by
    have hs := cutB_sym (ia := ia) (ib := ib) (ia' := ia') (ib' := ib') Fa Fb Fa' Fb'
    rcases c2 with ⟨hB, t, u, rfl, x1, x2, x3, x4, x5⟩ | ⟨hB, rfl⟩
    · rw [← hs, hB]; exact shr_true x1 x2 x3 x5 x4 Fa Fb Fa' Fb' μ
    · rw [← hs, hB]; exact shr_false _ _ μ
  have R3 : ∀ μ : Sto, callF fi_l_shared_right 4 [] [.val o3, .val (T4 a' b' ia' ib'), .val (T4 a' b' ia' ib'), .val (.bl true)] [] μ = some (.ok (.val (.bl true)), μ) := fun μ => by
    rcases c3 with ⟨hB, t, u, rfl, x1, x2, x3, x4, x5⟩ | ⟨hB, rfl⟩
    · exact shr_true x1 x2 x3 x4 x5 Fa' Fb' Fa' Fb' μ
    · rw [cutB_self g2.ok] at hB; cases hB
  generalize hv : cutB a b ia ib a' b' ia' ib' = v at k1 k2 R1 R2
  have hv' := isNon_cut.trans hv
  have cp := fun (ν : Sto) => comp_map' (i := iVal (mVar 8)) (t := gNm 9 false) (el := mCallF fi_l_shared_right 4 [] [mVar 9, mVar 3, mVar 4, mVar 5] []) (ow := [9])
    (ρ := [some (.val (.scr ns)), some (.val (.int (i : Int))), some (.cell μ.length), some (.val (T4 a b ia ib)), some (.val (T4 a' b' ia' ib')), some (.val (.bl v)), some (.val (So a b da db ia ib)), some (.val (So a' b' da' db' ia' ib')), some (.val (.lst [o1, o2])), s9]) (μ := ν) (μ1 := ν) (ds := [o1, o2]) (fun _ => .bl true) (by simp only [mVar_ap, slotM_some, List.getElem?_cons_zero, List.getElem?_cons_succ, List.set_cons_zero, List.set_cons_succ, mK_ap, andThen_ok, andThen_if, exThen_ok, exThen_if, vw_val, vw_fr, vw_cell, cellV_lst, cellV_frz, rt_val, rt_fr, rt_cell, fin2_ap, fin2K_some, opK_some, fin1_ap, op1K_some, mOp2_ap, mOp1_ap, add_ii, sub_ii, neg_i, not_b, lt_ii, le_ii, gt_ii, ge_ii, eq_ii, ne_ii, ix_lst, Sz.ix_tup, ix_scr, omap_some, atI0, atI1, atI2, bl?_bl, tBl_ap, tBlK_some, tNotM_ap, tAndM_ap, tOrM_ap, tTrue_ap, mIf_ap, mAnd_ap, mOr_ap, andK_some, orK_some, mArgs_nil, mArgs_cons, mOwns_nil, mOwns_cons, mList_ap, mTup_ap, mCallB_ap, finL1, finL2, finL3, finL4, finL5, finT2, finT3, vwK_some, vws_nil, vws_cons, opsK_some, finB_ap, len_scr, len_lst, len_tup, abs_i, min_ii, max_ii, int_b, int_i, seqK_nx, seqK_rt, seqK_ex, seqK_bk, seqK_ct, seqK_if, sSeq_ap, sNil_ap, sPass_ap, sBreak_ap, sCont_ap, sRet_ap, sRetN_ap, sIf_ap, sExpr_ap, nxK_some, sAsg_ap, gNm_ap, own_false, own_val, own_cell, own_fr, sPar2_ap, sPar3_ap, par2K_ap, par3K_ap, gVals_nil, gVK_some, gVals_cons, gTu_tup, gTu_lst, gTu_fr, finF_nx, finF_ex, finF_rt, finR_val, finR_fr, finF_if, mCallF_ap, mMake_ap, mMeth_ap, clsOf_obj, mAttr_ap, finA_obj, ite_true', ite_false', ite_T, ite_F, sFor_ap, iVal_ap, finI_lst, finI_fr, finI_tup, decide_eq_true_eq, Bool.not_eq_true', decide_eq_false_iff_not, Nat.reduceAdd, mLm_ap, lmK_cell, isLst_lst, finLm0, finLm1, finLm2, lm3K_lst, lm4K_some, get_end, set_end, is_non, isnot_non, isNon_non, isNon_int, isNon_tup, isNon_obj, eq_bb, Bool.not_true, Bool.not_false]) (by show 2 ≤ 1000; decide) (by
      intro x hx ν
      refine ⟨_, rfl, ?_⟩
      simp only [List.mem_cons, List.not_mem_nil, or_false] at hx
      rcases hx with rfl | rfl
      · simp only [mVar_ap, slotM_some, List.getElem?_cons_zero, List.getElem?_cons_succ, List.set_cons_zero, List.set_cons_succ, mK_ap, andThen_ok, andThen_if, exThen_ok, exThen_if, vw_val, vw_fr, vw_cell, cellV_lst, cellV_frz, rt_val, rt_fr, rt_cell, fin2_ap, fin2K_some, opK_some, fin1_ap, op1K_some, mOp2_ap, mOp1_ap, add_ii, sub_ii, neg_i, not_b, lt_ii, le_ii, gt_ii, ge_ii, eq_ii, ne_ii, ix_lst, Sz.ix_tup, ix_scr, omap_some, atI0, atI1, atI2, bl?_bl, tBl_ap, tBlK_some, tNotM_ap, tAndM_ap, tOrM_ap, tTrue_ap, mIf_ap, mAnd_ap, mOr_ap, andK_some, orK_some, mArgs_nil, mArgs_cons, mOwns_nil, mOwns_cons, mList_ap, mTup_ap, mCallB_ap, finL1, finL2, finL3, finL4, finL5, finT2, finT3, vwK_some, vws_nil, vws_cons, opsK_some, finB_ap, len_scr, len_lst, len_tup, abs_i, min_ii, max_ii, int_b, int_i, seqK_nx, seqK_rt, seqK_ex, seqK_bk, seqK_ct, seqK_if, sSeq_ap, sNil_ap, sPass_ap, sBreak_ap, sCont_ap, sRet_ap, sRetN_ap, sIf_ap, sExpr_ap, nxK_some, sAsg_ap, gNm_ap, own_false, own_val, own_cell, own_fr, sPar2_ap, sPar3_ap, par2K_ap, par3K_ap, gVals_nil, gVK_some, gVals_cons, gTu_tup, gTu_lst, gTu_fr, finF_nx, finF_ex, finF_rt, finR_val, finR_fr, finF_if, mCallF_ap, mMake_ap, mMeth_ap, clsOf_obj, mAttr_ap, finA_obj, ite_true', ite_false', ite_T, ite_F, sFor_ap, iVal_ap, finI_lst, finI_fr, finI_tup, decide_eq_true_eq, Bool.not_eq_true', decide_eq_false_iff_not, Nat.reduceAdd, mLm_ap, lmK_cell, isLst_lst, finLm0, finLm1, finLm2, lm3K_lst, lm4K_some, get_end, set_end, is_non, isnot_non, isNon_non, isNon_int, isNon_tup, isNon_obj, eq_bb, Bool.not_true, Bool.not_false, wipeE, R1]
      · simp only [mVar_ap, slotM_some, List.getElem?_cons_zero, List.getElem?_cons_succ, List.set_cons_zero, List.set_cons_succ, mK_ap, andThen_ok, andThen_if, exThen_ok, exThen_if, vw_val, vw_fr, vw_cell, cellV_lst, cellV_frz, rt_val, rt_fr, rt_cell, fin2_ap, fin2K_some, opK_some, fin1_ap, op1K_some, mOp2_ap, mOp1_ap, add_ii, sub_ii, neg_i, not_b, lt_ii, le_ii, gt_ii, ge_ii, eq_ii, ne_ii, ix_lst, Sz.ix_tup, ix_scr, omap_some, atI0, atI1, atI2, bl?_bl, tBl_ap, tBlK_some, tNotM_ap, tAndM_ap, tOrM_ap, tTrue_ap, mIf_ap, mAnd_ap, mOr_ap, andK_some, orK_some, mArgs_nil, mArgs_cons, mOwns_nil, mOwns_cons, mList_ap, mTup_ap, mCallB_ap, finL1, finL2, finL3, finL4, finL5, finT2, finT3, vwK_some, vws_nil, vws_cons, opsK_some, finB_ap, len_scr, len_lst, len_tup, abs_i, min_ii, max_ii, int_b, int_i, seqK_nx, seqK_rt, seqK_ex, seqK_bk, seqK_ct, seqK_if, sSeq_ap, sNil_ap, sPass_ap, sBreak_ap, sCont_ap, sRet_ap, sRetN_ap, sIf_ap, sExpr_ap, nxK_some, sAsg_ap, gNm_ap, own_false, own_val, own_cell, own_fr, sPar2_ap, sPar3_ap, par2K_ap, par3K_ap, gVals_nil, gVK_some, gVals_cons, gTu_tup, gTu_lst, gTu_fr, finF_nx, finF_ex, finF_rt, finR_val, finR_fr, finF_if, mCallF_ap, mMake_ap, mMeth_ap, clsOf_obj, mAttr_ap, finA_obj, ite_true', ite_false', ite_T, ite_F, sFor_ap, iVal_ap, finI_lst, finI_fr, finI_tup, decide_eq_true_eq, Bool.not_eq_true', decide_eq_false_iff_not, Nat.reduceAdd, mLm_ap, lmK_cell, isLst_lst, finLm0, finLm1, finLm2, lm3K_lst, lm4K_some, get_end, set_end, is_non, isnot_non, isNon_non, isNon_int, isNon_tup, isNon_obj, eq_bb, Bool.not_true, Bool.not_false, wipeE, R2])
  simp only [mVar_ap, slotM_some, List.getElem?_cons_zero, List.getElem?_cons_succ, List.set_cons_zero, List.set_cons_succ, mK_ap, andThen_ok, andThen_if, exThen_ok, exThen_if, vw_val, vw_fr, vw_cell, cellV_lst, cellV_frz, rt_val, rt_fr, rt_cell, fin2_ap, fin2K_some, opK_some, fin1_ap, op1K_some, mOp2_ap, mOp1_ap, add_ii, sub_ii, neg_i, not_b, lt_ii, le_ii, gt_ii, ge_ii, eq_ii, ne_ii, ix_lst, Sz.ix_tup, ix_scr, omap_some, atI0, atI1, atI2, bl?_bl, tBl_ap, tBlK_some, tNotM_ap, tAndM_ap, tOrM_ap, tTrue_ap, mIf_ap, mAnd_ap, mOr_ap, andK_some, orK_some, mArgs_nil, mArgs_cons, mOwns_nil, mOwns_cons, mList_ap, mTup_ap, mCallB_ap, finL1, finL2, finL3, finL4, finL5, finT2, finT3, vwK_some, vws_nil, vws_cons, opsK_some, finB_ap, len_scr, len_lst, len_tup, abs_i, min_ii, max_ii, int_b, int_i, seqK_nx, seqK_rt, seqK_ex, seqK_bk, seqK_ct, seqK_if, sSeq_ap, sNil_ap, sPass_ap, sBreak_ap, sCont_ap, sRet_ap, sRetN_ap, sIf_ap, sExpr_ap, nxK_some, sAsg_ap, gNm_ap, own_false, own_val, own_cell, own_fr, sPar2_ap, sPar3_ap, par2K_ap, par3K_ap, gVals_nil, gVK_some, gVals_cons, gTu_tup, gTu_lst, gTu_fr, finF_nx, finF_ex, finF_rt, finR_val, finR_fr, finF_if, mCallF_ap, mMake_ap, mMeth_ap, clsOf_obj, mAttr_ap, finA_obj, ite_true', ite_false', ite_T, ite_F, sFor_ap, iVal_ap, finI_lst, finI_fr, finI_tup, decide_eq_true_eq, Bool.not_eq_true', decide_eq_false_iff_not, Nat.reduceAdd, mLm_ap, lmK_cell, isLst_lst, finLm0, finLm1, finLm2, lm3K_lst, lm4K_some, get_end, set_end, is_non, isnot_non, isNon_non, isNon_int, isNon_tup, isNon_obj, eq_bb, Bool.not_true, Bool.not_false, e1, e2, e4, hv', m1, m2, methK_some mtme, methK_some mtsh, me2, me1, sh2, sh1, k1, k2, k3, mul_l3, ne_b3, isi_bl_b, isnotB_tt, z1, z2]
  rw [cp]
  simp only [mVar_ap, slotM_some, List.getElem?_cons_zero, List.getElem?_cons_succ, List.set_cons_zero, List.set_cons_succ, mK_ap, andThen_ok, andThen_if, exThen_ok, exThen_if, vw_val, vw_fr, vw_cell, cellV_lst, cellV_frz, rt_val, rt_fr, rt_cell, fin2_ap, fin2K_some, opK_some, fin1_ap, op1K_some, mOp2_ap, mOp1_ap, add_ii, sub_ii, neg_i, not_b, lt_ii, le_ii, gt_ii, ge_ii, eq_ii, ne_ii, ix_lst, Sz.ix_tup, ix_scr, omap_some, atI0, atI1, atI2, bl?_bl, tBl_ap, tBlK_some, tNotM_ap, tAndM_ap, tOrM_ap, tTrue_ap, mIf_ap, mAnd_ap, mOr_ap, andK_some, orK_some, mArgs_nil, mArgs_cons, mOwns_nil, mOwns_cons, mList_ap, mTup_ap, mCallB_ap, finL1, finL2, finL3, finL4, finL5, finT2, finT3, vwK_some, vws_nil, vws_cons, opsK_some, finB_ap, len_scr, len_lst, len_tup, abs_i, min_ii, max_ii, int_b, int_i, seqK_nx, seqK_rt, seqK_ex, seqK_bk, seqK_ct, seqK_if, sSeq_ap, sNil_ap, sPass_ap, sBreak_ap, sCont_ap, sRet_ap, sRetN_ap, sIf_ap, sExpr_ap, nxK_some, sAsg_ap, gNm_ap, own_false, own_val, own_cell, own_fr, sPar2_ap, sPar3_ap, par2K_ap, par3K_ap, gVals_nil, gVK_some, gVals_cons, gTu_tup, gTu_lst, gTu_fr, finF_nx, finF_ex, finF_rt, finR_val, finR_fr, finF_if, mCallF_ap, mMake_ap, mMeth_ap, clsOf_obj, mAttr_ap, finA_obj, ite_true', ite_false', ite_T, ite_F, sFor_ap, iVal_ap, finI_lst, finI_fr, finI_tup, decide_eq_true_eq, Bool.not_eq_true', decide_eq_false_iff_not, Nat.reduceAdd, mLm_ap, lmK_cell, isLst_lst, finLm0, finLm1, finLm2, lm3K_lst, lm4K_some, get_end, set_end, is_non, isnot_non, isNon_non, isNon_int, isNon_tup, isNon_obj, eq_bb, Bool.not_true, Bool.not_false, ball_true, methK_some mtsh, sh2, z3, R3]
  exact ⟨_, _, rfl, _, _, _, _, _, _, _, _, _, rfl⟩
theorem law_holds (ns : List Int) (hl : ns.length ≤ 63) : fi_law.sem [.val (.scr ns)] [] = some (.ok (.val (.bl true)), []) := by
  rw [show fi_law.sem [.val (.scr ns)] [] = finF 0 (c_law [some (.val (.scr ns)), none, none, none, none, none, none, none, none, none] []) from rfl]
  unfold c_law
  have hr := iRange1_eq (a := mOp2 dAdd (mK (.int 2)) (mCallB bMin [mK (.int 12), mCallB bLen [mVar 0]])) (ρ := [some (.val (.scr ns)), none, none, none, none, none, none, none, none, none]) (μ := []) (μ1 := []) (j := 2 + if (ns.length : Int) < 12 then (ns.length : Int) else 12) (by simp only [mVar_ap, slotM_some, List.getElem?_cons_zero, List.getElem?_cons_succ, List.set_cons_zero, List.set_cons_succ, mK_ap, andThen_ok, andThen_if, exThen_ok, exThen_if, vw_val, vw_fr, vw_cell, cellV_lst, cellV_frz, rt_val, rt_fr, rt_cell, fin2_ap, fin2K_some, opK_some, fin1_ap, op1K_some, mOp2_ap, mOp1_ap, add_ii, sub_ii, neg_i, not_b, lt_ii, le_ii, gt_ii, ge_ii, eq_ii, ne_ii, ix_lst, Sz.ix_tup, ix_scr, omap_some, atI0, atI1, atI2, bl?_bl, tBl_ap, tBlK_some, tNotM_ap, tAndM_ap, tOrM_ap, tTrue_ap, mIf_ap, mAnd_ap, mOr_ap, andK_some, orK_some, mArgs_nil, mArgs_cons, mOwns_nil, mOwns_cons, mList_ap, mTup_ap, mCallB_ap, finL1, finL2, finL3, finL4, finL5, finT2, finT3, vwK_some, vws_nil, vws_cons, opsK_some, finB_ap, len_scr, len_lst, len_tup, abs_i, min_ii, max_ii, int_b, int_i, seqK_nx, seqK_rt, seqK_ex, seqK_bk, seqK_ct, seqK_if, sSeq_ap, sNil_ap, sPass_ap, sBreak_ap, sCont_ap, sRet_ap, sRetN_ap, sIf_ap, sExpr_ap, nxK_some, sAsg_ap, gNm_ap, own_false, own_val, own_cell, own_fr, sPar2_ap, sPar3_ap, par2K_ap, par3K_ap, gVals_nil, gVK_some, gVals_cons, gTu_tup, gTu_lst, gTu_fr, finF_nx, finF_ex, finF_rt, finR_val, finR_fr, finF_if, mCallF_ap, mMake_ap, mMeth_ap, clsOf_obj, mAttr_ap, finA_obj, ite_true', ite_false', ite_T, ite_F, sFor_ap, iVal_ap, finI_lst, finI_fr, finI_tup, decide_eq_true_eq, Bool.not_eq_true', decide_eq_false_iff_not, Nat.reduceAdd, mLm_ap, lmK_cell, isLst_lst, finLm0, finLm1, finLm2, lm3K_lst, lm4K_some, get_end, set_end, is_non, isnot_non, isNon_non, isNon_int, isNon_tup, isNon_obj, eq_bb, Bool.not_true, Bool.not_false]) (by unfold inR; rw [Bool.and_eq_true, decide_eq_true_eq, decide_eq_true_eq]; split <;> omega)
  obtain ⟨ρ', μ', e, hI⟩ := floop_inv (t := gNm 1 false) (b := c_law_b1) (fun ρ _ => Sl10 ns ρ) (fun x => ∃ i : Nat, x = .int (i : Int)) (fun x ρ ν hx hI => by
      obtain ⟨i, rfl⟩ := hx
      exact outer hI) (rangeD 0 (2 + if (ns.length : Int) < 12 then (ns.length : Int) else 12).toNat) [some (.val (.scr ns)), none, none, none, none, none, none, none, none, none] [] (fun d hd => by
      obtain ⟨i, _, rfl⟩ := rangeD_mem hd
      exact ⟨i, by rw [Int.zero_add]⟩) ⟨_, _, _, _, _, _, _, _, _, rfl⟩
  simp only [mVar_ap, slotM_some, List.getElem?_cons_zero, List.getElem?_cons_succ, List.set_cons_zero, List.set_cons_succ, mK_ap, andThen_ok, andThen_if, exThen_ok, exThen_if, vw_val, vw_fr, vw_cell, cellV_lst, cellV_frz, rt_val, rt_fr, rt_cell, fin2_ap, fin2K_some, opK_some, fin1_ap, op1K_some, mOp2_ap, mOp1_ap, add_ii, sub_ii, neg_i, not_b, lt_ii, le_ii, gt_ii, ge_ii, eq_ii, ne_ii, ix_lst, Sz.ix_tup, ix_scr, omap_some, atI0, atI1, atI2, bl?_bl, tBl_ap, tBlK_some, tNotM_ap, tAndM_ap, tOrM_ap, tTrue_ap, mIf_ap, mAnd_ap, mOr_ap, andK_some, orK_some, mArgs_nil, mArgs_cons, mOwns_nil, mOwns_cons, mList_ap, mTup_ap, mCallB_ap, finL1, finL2, finL3, finL4, finL5, finT2, finT3, vwK_some, vws_nil, vws_cons, opsK_some, finB_ap, len_scr, len_lst, len_tup, abs_i, min_ii, max_ii, int_b, int_i, seqK_nx, seqK_rt, seqK_ex, seqK_bk, seqK_ct, seqK_if, sSeq_ap, sNil_ap, sPass_ap, sBreak_ap, sCont_ap, sRet_ap, sRetN_ap, sIf_ap, sExpr_ap, nxK_some, sAsg_ap, gNm_ap, own_false, own_val, own_cell, own_fr, sPar2_ap, sPar3_ap, par2K_ap, par3K_ap, gVals_nil, gVK_some, gVals_cons, gTu_tup, gTu_lst, gTu_fr, finF_nx, finF_ex, finF_rt, finR_val, finR_fr, finF_if, mCallF_ap, mMake_ap, mMeth_ap, clsOf_obj, mAttr_ap, finA_obj, ite_true', ite_false', ite_T, ite_F, sFor_ap, iVal_ap, finI_lst, finI_fr, finI_tup, decide_eq_true_eq, Bool.not_eq_true', decide_eq_false_iff_not, Nat.reduceAdd, mLm_ap, lmK_cell, isLst_lst, finLm0, finLm1, finLm2, lm3K_lst, lm4K_some, get_end, set_end, is_non, isnot_non, isNon_non, isNon_int, isNon_tup, isNon_obj, eq_bb, Bool.not_true, Bool.not_false, hr, e]
  rfl
end Law

theorem PySem.Challenge.cw_sizeladders_k10_whether_two_meet_holds : PySem.Challenge.rw_sizeladders_k10_whether_two_meet.Holds := by
  exact Law.whole Law.law_holds
