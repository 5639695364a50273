import PyProof.Rows.All
import Wide.All
import OpenK.AllK
import Wide.FinOn
import KE.KStateDown
import Lean
import HandS.ForMost
import HandS.ForExc
import HandS.Wide
import HandS.Defaults
import HandS.IsInst
import HandS.TupAny
import HandS.Deep
import KE.DataCmp
import HandS.CallRecv
import HandS.Style
import HandS.TryOnly
import HandS.HeadHook2
import HandS.More
import HandS.SlotsOwn
import HandS.Ends
import HandS.HeadEnd
import HandS.RaiseMore
import HandS.Iter
import HandS.RevRange
import KE.GoesMore
import KE.GoesEnum
import HandS.Zip
import HandS.HeadHook3
import HandS.FStrTup
import OpenK.KOps
import KE.DataMinMax
import HandS.SortKw
import HandS.FStr
import PyProof.ReprReads
import HandS.Conv
import KE.KFmtOwn
import HandS.WideBits
import HandS.OwnEq
import HandS.Text
import HandS.TryMany
import HandS.ExcIs
import PyProof.ExcBaseAll.ValueError
import PyProof.ExcBaseAll.LookupError
import PyProof.ExcBaseAll.ZeroDivisionError
import PyProof.ExcBaseAll.IndexError
import HandS.ExcInit
import KE.KExcInit
import HandS.ExcField
import HandS.Head2
import PySem.Challenge.RW_sizeladders_k21_the_first_slip
set_option Elab.async false
set_option linter.all false
set_option maxRecDepth 100000
set_option maxHeartbeats 4000000
/-! Sz A: the domain of values, what stands for them in the abstract heap, the state's relation. -/
namespace Sz
open PySem PySem.Spec L2

/-- a value as a tree -/
inductive D where
  | non | bl (b : Bool) | int (i : Int) | str (s : Str) | ty (n : String)
  | tup (ds : List D) | lst (ds : List D) | obj (c : Nat) (fs : List D)
  | fn (f : Nat) | cls (c : Nat)
  /-- the law's script -/
  | scr (ns : List Int)
  /-- a dict that never changes -/
  | dic (ks : List Key) (ds : List D)
  /-- a caught exception of the program's own -/
  | exc (c : Nat) (fs : List D)
/-- what a slot holds -/
inductive S where
  | val (d : D) | cell (k : Nat) | fr (ds : List D)
  /-- a list that nothing holds yet, its first item a list that changes: a cell, or a loose one -/
  | pot (j : Option Nat) (is ds : List D)
  /-- a thing of which nothing is known -/
  | any
/-- what a cell of the store holds -/
inductive C where
  | lst (ds : List D) | frz (d : D) | ins (c : Nat) (fs : List (Str × D))
  /-- a list whose first item is the list in cell j -/
  | pot (j : Nat) (ds : List D)
/-- an exception of the program's own -/
inductive Ex where
  | own (c : Nat) (fs : List D)
abbrev En := List (Option S)
abbrev Sto := List C
/-- an expression's run -/
abbrev R := Except Ex S × Sto
abbrev ME := En → Sto → Option R
/-- a statement's -/
inductive Fl where
  | nx | rt (s : S) | bk | ct | ex (x : Ex)
abbrev MS := En → Sto → Option (Fl × En × Sto)

/-- where the text's own things stand -/
structure G where
  K : PySem.W.Frag
  cad : Nat → Addr
  fl : Nat → List Str
  fad : Nat → Addr

mutual
def Rep (g : G) (F : Hp) : D → V → Prop
  | .non, v => v = .non
  | .bl b, v => v = .bl b
  | .int i, v => v = .int i
  | .str s, v => v = .str s
  | .ty n, v => v = .ty n
  | .tup ds, v => ∃ a vs, v = .ref a ∧ SqT g.K F a vs ∧ Reps g F ds vs
  | .lst ds, v => ∃ a vs, v = .ref a ∧ F a = some (.lst vs) ∧ Reps g F ds vs
  | .obj c fs, v => ∃ a dx vs, v = .ref a ∧ F a = some (.ins (g.cad c) dx ((g.fl c).zip vs)) ∧ vs.length = (g.fl c).length ∧ Reps g F fs vs
  | .fn f, v => v = .ref (g.fad f)
  | .cls c, v => v = .ref (g.cad c)
  | .scr ns, v => ∃ a, v = .ref a ∧ SqL g.K F a (ns.map V.int)
  | .dic ks ds, v => ∃ a vs, v = .ref a ∧ F a = some (.dK (ks.zip vs)) ∧ vs.length = ks.length ∧ Reps g F ds vs
  | .exc c fs, v => ∃ (a : Addr) (oe : Obj) (dx : Addr) (vs : List V), v = .ref a ∧ F a = some (.ext fun h => h.get? a = some oe) ∧ oe.cls = .ref (g.cad c) ∧ (∃ ws, oe.data = .fields ws) ∧ (oe.dict = some dx → F dx = some (.xd ((g.fl c).zip vs)) ∧ vs.length = (g.fl c).length) ∧ (oe.dict ≠ some dx → vs = []) ∧ (fs = [] → oe.dict = none) ∧ Reps g F fs vs
def Reps (g : G) (F : Hp) : List D → List V → Prop
  | [], vs => vs = []
  | d :: ds, vs => ∃ v r, vs = v :: r ∧ Rep g F d v ∧ Reps g F ds r
end

theorem seqT_mono {K : PySem.W.Frag} {H H' : Hp} {a : Addr} {xs : List V} (e : Same H H') (h : SqT K H a xs) : SqT K H' a xs := by
  rcases h with (h | ⟨o, h⟩) | h
  · exact .inl (.inl (e _ _ h))
  · exact .inl (.inr ⟨o, e _ _ h⟩)
  · exact .inr h
section
variable {g : G} {F F' : Hp}
mutual
theorem Rep.mono (e : Same F F') : ∀ {d : D} {v : V}, Rep g F d v → Rep g F' d v
  | .non, _, h => h
  | .bl _, _, h => h
  | .int _, _, h => h
  | .str _, _, h => h
  | .ty _, _, h => h
  | .tup ds, v, h => by
    unfold Rep at h ⊢
    obtain ⟨a, vs, e1, e2, e3⟩ := h
    exact ⟨a, vs, e1, seqT_mono e e2, Reps.mono e e3⟩
  | .lst ds, v, h => by
    unfold Rep at h ⊢
    obtain ⟨a, vs, e1, e2, e3⟩ := h
    exact ⟨a, vs, e1, e _ _ e2, Reps.mono e e3⟩
  | .obj c fs, v, h => by
    unfold Rep at h ⊢
    obtain ⟨a, dx, vs, e1, e2, e3, e4⟩ := h
    exact ⟨a, dx, vs, e1, e _ _ e2, e3, Reps.mono e e4⟩
  | .fn _, _, h => h
  | .cls _, _, h => h
  | .scr ns, v, h => by
    unfold Rep at h ⊢
    obtain ⟨a, e1, e2⟩ := h
    exact ⟨a, e1, e.seq e2⟩
  | .dic ks ds, v, h => by
    unfold Rep at h ⊢
    obtain ⟨a, vs, e1, e2, e3, e4⟩ := h
    exact ⟨a, vs, e1, e _ _ e2, e3, Reps.mono e e4⟩
  | .exc c fs, v, h => by
    unfold Rep at h ⊢
    obtain ⟨a, oe, dx, vs, e1, e2, e3, e4, e5, e6, e8, e7⟩ := h
    exact ⟨a, oe, dx, vs, e1, e _ _ e2, e3, e4, fun z => ⟨e _ _ (e5 z).1, (e5 z).2⟩, e6, e8, Reps.mono e e7⟩
theorem Reps.mono (e : Same F F') : ∀ {ds : List D} {vs : List V}, Reps g F ds vs → Reps g F' ds vs
  | [], _, h => h
  | d :: ds, vs, h => by
    unfold Reps at h ⊢
    obtain ⟨v, r, e1, e2, e3⟩ := h
    exact ⟨v, r, e1, Rep.mono e e2, Reps.mono e e3⟩
end
theorem Reps.nil : Reps g F [] [] := by unfold Reps; rfl
theorem Reps.nil_iff {vs : List V} : Reps g F [] vs ↔ vs = [] := by unfold Reps; exact Iff.rfl
theorem Reps.cons_iff {d : D} {ds : List D} {vs : List V} : Reps g F (d :: ds) vs ↔ ∃ v r, vs = v :: r ∧ Rep g F d v ∧ Reps g F ds r := by
  conv => lhs; unfold Reps
theorem Reps.cons {d : D} {ds : List D} {v : V} {vs : List V} (h : Rep g F d v) (t : Reps g F ds vs) : Reps g F (d :: ds) (v :: vs) := Reps.cons_iff.mpr ⟨v, vs, rfl, h, t⟩
theorem Reps.length : ∀ {ds : List D} {vs : List V}, Reps g F ds vs → vs.length = ds.length
  | [], vs, h => by rw [Reps.nil_iff.mp h]; rfl
  | d :: ds, vs, h => by
    obtain ⟨v, r, e, _, t⟩ := Reps.cons_iff.mp h
    rw [e, List.length_cons, List.length_cons, Reps.length t]
theorem Reps.get : ∀ {ds : List D} {vs : List V} {i : Nat} {d : D}, Reps g F ds vs → ds[i]? = some d → ∃ v, vs[i]? = some v ∧ Rep g F d v
  | [], _, _, _, _, e => by simp at e
  | d :: ds, vs, 0, d', h, e => by
    obtain ⟨v, r, e1, e2, t⟩ := Reps.cons_iff.mp h
    simp only [List.getElem?_cons_zero, Option.some.injEq] at e
    subst e
    exact ⟨v, by rw [e1]; rfl, e2⟩
  | d :: ds, vs, i + 1, d', h, e => by
    obtain ⟨v, r, e1, e2, t⟩ := Reps.cons_iff.mp h
    simp only [List.getElem?_cons_succ] at e
    obtain ⟨u, h1, h2⟩ := Reps.get t e
    exact ⟨u, by rw [e1, List.getElem?_cons_succ]; exact h1, h2⟩
theorem Reps.append : ∀ {ds es : List D} {vs us : List V}, Reps g F ds vs → Reps g F es us → Reps g F (ds ++ es) (vs ++ us)
  | [], es, vs, us, h, t => by rw [Reps.nil_iff.mp h]; exact t
  | d :: ds, es, vs, us, h, t => by
    obtain ⟨v, r, e1, e2, e3⟩ := Reps.cons_iff.mp h
    rw [e1]
    exact Reps.cons e2 (Reps.append e3 t)
theorem Reps.set {d : D} {v : V} (hv : Rep g F d v) : ∀ {ds : List D} {vs : List V} (i : Nat), Reps g F ds vs → Reps g F (ds.set i d) (vs.set i v)
  | [], _, _, h => by rw [Reps.nil_iff.mp h]; exact Reps.nil
  | e :: ds, vs, 0, h => by
    obtain ⟨u, r, e1, e2, e3⟩ := Reps.cons_iff.mp h
    rw [e1]; exact Reps.cons hv e3
  | e :: ds, vs, i + 1, h => by
    obtain ⟨u, r, e1, e2, e3⟩ := Reps.cons_iff.mp h
    rw [e1]; exact Reps.cons e2 (Reps.set hv i e3)
theorem Reps.take : ∀ {ds : List D} {vs : List V} (n : Nat), Reps g F ds vs → Reps g F (ds.take n) (vs.take n)
  | _, _, 0, _ => by rw [List.take_zero, List.take_zero]; exact Reps.nil
  | [], _, n + 1, h => by rw [Reps.nil_iff.mp h]; exact Reps.nil
  | e :: ds, vs, n + 1, h => by
    obtain ⟨u, r, e1, e2, e3⟩ := Reps.cons_iff.mp h
    rw [e1]; exact Reps.cons e2 (Reps.take n e3)
theorem Reps.drop : ∀ {ds : List D} {vs : List V} (n : Nat), Reps g F ds vs → Reps g F (ds.drop n) (vs.drop n)
  | _, _, 0, h => by rw [List.drop_zero, List.drop_zero]; exact h
  | [], _, n + 1, h => by rw [Reps.nil_iff.mp h]; exact Reps.nil
  | e :: ds, vs, n + 1, h => by
    obtain ⟨u, r, e1, e2, e3⟩ := Reps.cons_iff.mp h
    rw [e1]; exact Reps.drop n e3
theorem Reps.rep {ds : List D} {vs : List V} (h : Reps g F ds vs) : ∀ k : Nat, Reps g F (List.replicate k ds).flatten (List.replicate k vs).flatten
  | 0 => Reps.nil
  | k + 1 => by
    rw [List.replicate_succ, List.replicate_succ, List.flatten_cons, List.flatten_cons]
    exact h.append (Reps.rep h k)
end

/-! ### the state -/
def CellOk (g : G) (F H : Hp) (as : List Addr) (a : Addr) : C → Prop
  | .lst ds => F a = none ∧ ∃ vs, H a = some (.lst vs) ∧ Reps g F ds vs
  | .frz d => Rep g F d (.ref a)
  | .ins c fs => F a = none ∧ ∃ dx vs, H a = some (.ins (g.cad c) dx ((fs.map (·.1)).zip vs)) ∧ vs.length = fs.length ∧ Reps g F (fs.map (·.2)) vs
  | .pot j ds => F a = none ∧ ∃ b us, as[j]? = some b ∧ H a = some (.lst (.ref b :: us)) ∧ Reps g F ds us
structure SR (g : G) (F : Hp) (as : List Addr) (μ : Sto) (H : Hp) : Prop where
  sub : Same F H
  len : as.length = μ.length
  cells : ∀ (k : Nat) (a : Addr) (c : C), as[k]? = some a → μ[k]? = some c → CellOk g F H (as.take k) a c
  nd : as.Nodup
  live : ∀ a, a ∈ as → ∃ o, H a = some o
/-- the frozen part grows, cells come behind -/
def Ext (F : Hp) (as : List Addr) (F' : Hp) (as' : List Addr) : Prop := Same F F' ∧ ∃ l, as' = as ++ l
theorem Ext.refl {F : Hp} {as : List Addr} : Ext F as F as := ⟨Same.refl _, [], (List.append_nil _).symm⟩
theorem Ext.trans {F F1 F2 : Hp} {as as1 as2 : List Addr} (a : Ext F as F1 as1) (b : Ext F1 as1 F2 as2) : Ext F as F2 as2 := by
  obtain ⟨a1, l, e1⟩ := a
  obtain ⟨b1, m, e2⟩ := b
  exact ⟨a1.trans b1, l ++ m, by rw [e2, e1, List.append_assoc]⟩
/-- what a slot's thing stands for -/
def RS (g : G) (F : Hp) (as : List Addr) : S → V → Prop
  | .val d, v => Rep g F d v
  | .cell k, v => ∃ a, as[k]? = some a ∧ v = .ref a
  | .fr _, _ => False
  | .pot _ _ _, _ => False
  | .any, _ => True
/-- what an expression's answer stands for -/
def RA (g : G) (F : Hp) (as : List Addr) (H : Hp) : S → V → Prop
  | .fr ds, v => ∃ p vs, v = .ref p ∧ H p = some (.lst vs) ∧ F p = none ∧ p ∉ as ∧ Reps g F ds vs
  | .pot none is ds, v => ∃ p q vs us, v = .ref p ∧ H p = some (.lst (.ref q :: us)) ∧ F p = none ∧ p ∉ as ∧ H q = some (.lst vs) ∧ F q = none ∧ q ∉ as ∧ p ≠ q ∧ Reps g F is vs ∧ Reps g F ds us
  | .pot (some j) _ ds, v => ∃ p b us, v = .ref p ∧ H p = some (.lst (.ref b :: us)) ∧ F p = none ∧ p ∉ as ∧ as[j]? = some b ∧ Reps g F ds us
  | s, v => RS g F as s v
theorem RS.ra {g : G} {F : Hp} {as : List Addr} {H : Hp} {s : S} {v : V} (h : RS g F as s v) : RA g F as H s v := by
  cases s with
  | fr ds => exact (show False from h).elim
  | pot j is ds => exact (show False from h).elim
  | _ => exact h
theorem RS.mono {g : G} {F F' : Hp} {as as' : List Addr} {s : S} {v : V} (e : Ext F as F' as') (h : RS g F as s v) : RS g F' as' s v := by
  cases s with
  | val d => exact Rep.mono e.1 h
  | cell k =>
    obtain ⟨a, h1, h2⟩ := (show ∃ a, as[k]? = some a ∧ v = .ref a from h)
    obtain ⟨_, l, rfl⟩ := e
    exact ⟨a, by rw [List.getElem?_append_left (List.getElem?_eq_some_iff.mp h1).1]; exact h1, h2⟩
  | fr ds => exact h
  | pot j is ds => exact h
  | any => trivial
/-- the slots -/
structure ER (g : G) (F : Hp) (as : List Addr) (ρ : En) (σ : St) : Prop where
  len : ρ.length ≤ σ.length
  at_ : ∀ (i : Nat) (s : S), ρ[i]? = some (some s) → ∃ v, σ[i]? = some (some v) ∧ RS g F as s v
theorem ER.mono {g : G} {F F' : Hp} {as as' : List Addr} {ρ : En} {σ : St} (e : Ext F as F' as') (h : ER g F as ρ σ) : ER g F' as' ρ σ := ⟨h.len, fun i s q => by
  obtain ⟨v, h1, h2⟩ := h.at_ i s q
  exact ⟨v, h1, h2.mono e⟩⟩
theorem ER.set {g : G} {F : Hp} {as : List Addr} {ρ : En} {σ : St} {i : Nat} {s : S} {v : V} (h : ER g F as ρ σ) (r : RS g F as s v) : ER g F as (ρ.set i (some s)) (σ.set i (some v)) := by
  refine ⟨by rw [List.length_set, List.length_set]; exact h.len, fun j t q => ?_⟩
  by_cases e : j = i
  · subst e
    by_cases hj : j < ρ.length
    · rw [List.getElem?_set_self hj] at q
      cases q
      exact ⟨v, List.getElem?_set_self (Nat.lt_of_lt_of_le hj h.len), r⟩
    · rw [List.getElem?_eq_none (by rw [List.length_set]; omega)] at q
      cases q
  · rw [List.getElem?_set_ne (Ne.symm e)] at q
    rw [List.getElem?_set_ne (Ne.symm e)]
    exact h.at_ j t q

section
variable {g : G} {F H : Hp} {as : List Addr} {μ : Sto} {p : Addr} {o : HO}
theorem upd_none {H : Hp} {p b : Addr} {o : HO} (h : b ≠ p) : upd H p o b = H b := upd_ne h
theorem same_upd {H : Hp} {p : Addr} {o : HO} (h : H p = none) : Same H (upd H p o) := fun b u e => by rw [upd_ne (ne_of_none e h)]; exact e
theorem CellOk.mono {F' H' : Hp} {a : Addr} {bs : List Addr} (e : Same F F') (hF : F a = none → F' a = none) (hH : H' a = H a) : ∀ {c : C}, CellOk g F H bs a c → CellOk g F' H' bs a c
  | .lst ds, h => by
    obtain ⟨h0, vs, h1, h2⟩ := h
    exact ⟨hF h0, vs, by rw [hH]; exact h1, h2.mono e⟩
  | .frz d, h => Rep.mono e (show Rep g F d (.ref a) from h)
  | .ins c fs, h => by
    obtain ⟨h0, dx, vs, h1, h2, h3⟩ := h
    exact ⟨hF h0, dx, vs, by rw [hH]; exact h1, h2, h3.mono e⟩
  | .pot j ds, h => by
    obtain ⟨h0, b, us, h1, h2, h3⟩ := h
    exact ⟨hF h0, b, us, h1, by rw [hH]; exact h2, h3.mono e⟩
/-- a new object, at once frozen -/
theorem SR.frozen (r : SR g F as μ H) (hp : H p = none) : SR g (upd F p o) as μ (upd H p o) ∧ Ext F as (upd F p o) as ∧ upd F p o p = some o := by
  have fp : F p = none := r.sub.free hp
  have ne : ∀ a, a ∈ as → a ≠ p := fun a ha => by
    obtain ⟨u, e⟩ := r.live a ha
    exact ne_of_none e hp
  have s1 : Same F (upd F p o) := same_upd fp
  refine ⟨⟨fun b u e => ?_, r.len, fun k a c e1 e2 => ?_, r.nd, fun a ha => ?_⟩, ⟨s1, [], (List.append_nil _).symm⟩, upd_same⟩
  · by_cases hb : b = p
    · rw [hb, upd_same] at e; rw [hb, upd_same]; exact e
    · rw [upd_ne hb] at e; rw [upd_ne hb]; exact r.sub _ _ e
  · have na := ne a (List.mem_of_getElem? e1)
    exact (r.cells k a c e1 e2).mono s1 (fun z => by rw [upd_ne na]; exact z) (upd_ne na)
  · rw [upd_ne (ne a ha)]; exact r.live a ha
/-- a new object that nothing holds yet -/
theorem SR.loose (r : SR g F as μ H) (hp : H p = none) : SR g F as μ (upd H p o) ∧ F p = none ∧ p ∉ as := by
  have fp : F p = none := r.sub.free hp
  have ne : ∀ a, a ∈ as → a ≠ p := fun a ha => by
    obtain ⟨u, e⟩ := r.live a ha
    exact ne_of_none e hp
  refine ⟨⟨r.sub.trans (same_upd hp), r.len, fun k a c e1 e2 => ?_, r.nd, fun a ha => ?_⟩, fp, fun hm => ne p hm rfl⟩
  · have na := ne a (List.mem_of_getElem? e1)
    exact (r.cells k a c e1 e2).mono (Same.refl _) (fun z => z) (upd_ne na)
  · rw [upd_ne (ne a ha)]; exact r.live a ha
/-- a loose list is frozen -/
theorem SR.freeze {vs : List V} (r : SR g F as μ H) (hp : H p = some o) (fp : F p = none) (na : p ∉ as) : SR g (upd F p o) as μ H ∧ Ext F as (upd F p o) as ∧ upd F p o p = some o := by
  have ne : ∀ a, a ∈ as → a ≠ p := fun a ha e => na (e ▸ ha)
  have s1 : Same F (upd F p o) := same_upd fp
  refine ⟨⟨fun b u e => ?_, r.len, fun k a c e1 e2 => ?_, r.nd, r.live⟩, ⟨s1, [], (List.append_nil _).symm⟩, upd_same⟩
  · by_cases hb : b = p
    · rw [hb, upd_same] at e; rw [hb, ← e]; exact hp
    · rw [upd_ne hb] at e; exact r.sub _ _ e
  · have na := ne a (List.mem_of_getElem? e1)
    exact (r.cells k a c e1 e2).mono s1 (fun z => by rw [upd_ne na]; exact z) rfl
/-- a loose object becomes a cell -/
theorem SR.push {c : C} (r : SR g F as μ H) (hp : H p = some o) (na : p ∉ as) (hc : CellOk g F H as p c) : SR g F (as ++ [p]) (μ ++ [c]) H ∧ Ext F as F (as ++ [p]) := by
  refine ⟨⟨r.sub, by rw [List.length_append, List.length_append, r.len]; rfl, fun k a c' e1 e2 => ?_, ?_, fun a ha => ?_⟩, Same.refl _, [p], rfl⟩
  · by_cases hk : k < as.length
    · rw [List.getElem?_append_left hk] at e1
      rw [List.getElem?_append_left (by rw [← r.len]; exact hk)] at e2
      rw [List.take_append_of_le_length (Nat.le_of_lt hk)]
      exact r.cells k a c' e1 e2
    · rw [List.getElem?_append_right (by omega)] at e1
      rw [List.getElem?_append_right (by have := r.len; omega)] at e2
      rw [r.len] at e1
      cases hz : k - μ.length with
      | zero =>
        rw [hz] at e1 e2
        simp only [List.getElem?_cons_zero, Option.some.injEq] at e1 e2
        subst e1 e2
        have ek : k = as.length := by have := r.len; omega
        rw [ek, List.take_left]
        exact hc
      | succ n => rw [hz] at e1; simp at e1
  · rw [List.nodup_append]
    exact ⟨r.nd, by simp, fun a ha b hb => by
      have : b = p := by simpa using hb
      subst this
      exact fun e => na (e ▸ ha)⟩
  · rcases List.mem_append.mp ha with h | h
    · exact r.live a h
    · have : a = p := by simpa using h
      subst this
      exact ⟨o, hp⟩
theorem nd_at {as : List Addr} (nd : as.Nodup) {i j : Nat} {a : Addr} (hi : as[i]? = some a) (hj : as[j]? = some a) : i = j := by
  obtain ⟨h1, e1⟩ := List.getElem?_eq_some_iff.mp hi
  obtain ⟨h2, e2⟩ := List.getElem?_eq_some_iff.mp hj
  exact (List.getElem_inj nd).mp (e1.trans e2.symm)
/-- a cell's object changed -/
theorem SR.write {k : Nat} {a : Addr} {c : C} (r : SR g F as μ H) (ha : as[k]? = some a) (fa : F a = none) (hc : CellOk g F (upd H a o) (as.take k) a c) : SR g F as (μ.set k c) (upd H a o) := by
  refine ⟨fun b u e => ?_, by rw [List.length_set]; exact r.len, fun j b c' e1 e2 => ?_, r.nd, fun b hb => ?_⟩
  · have nb : b ≠ a := fun z => by rw [z, fa] at e; cases e
    rw [upd_ne nb]; exact r.sub _ _ e
  · by_cases hj : j = k
    · subst hj
      rw [ha] at e1
      have hl : j < μ.length := by rw [← r.len]; exact (List.getElem?_eq_some_iff.mp ha).1
      rw [List.getElem?_set_self hl] at e2
      cases e1; cases e2
      exact hc
    · rw [List.getElem?_set_ne (Ne.symm hj)] at e2
      have nb : b ≠ a := fun z => hj (nd_at r.nd e1 (z ▸ ha))
      exact (r.cells j b c' e1 e2).mono (Same.refl _) (fun z => z) (upd_ne nb)
  · by_cases z : b = a
    · subst z; exact ⟨o, upd_same⟩
    · rw [upd_ne z]; exact r.live b hb
/-- a list cell is frozen where it stands -/
theorem SR.still {k : Nat} {a : Addr} {d : D} (r : SR g F as μ H) (ha : as[k]? = some a) (hp : H a = some o) (fa : F a = none) (hd : Rep g (upd F a o) d (.ref a)) : SR g (upd F a o) as (μ.set k (.frz d)) H ∧ Ext F as (upd F a o) as := by
  have s1 : Same F (upd F a o) := same_upd fa
  refine ⟨⟨fun b u e => ?_, by rw [List.length_set]; exact r.len, fun j b c' e1 e2 => ?_, r.nd, r.live⟩, s1, [], (List.append_nil _).symm⟩
  · by_cases hb : b = a
    · rw [hb, upd_same] at e; rw [hb, ← e]; exact hp
    · rw [upd_ne hb] at e; exact r.sub _ _ e
  · by_cases hj : j = k
    · subst hj
      rw [ha] at e1
      have hl : j < μ.length := by rw [← r.len]; exact (List.getElem?_eq_some_iff.mp ha).1
      rw [List.getElem?_set_self hl] at e2
      cases e1; cases e2
      exact hd
    · rw [List.getElem?_set_ne (Ne.symm hj)] at e2
      have nb : b ≠ a := fun z => hj (nd_at r.nd e1 (z ▸ ha))
      exact (r.cells j b c' e1 e2).mono s1 (fun z => by rw [upd_ne nb]; exact z) rfl
/-- the store cut back -/
theorem SR.cut (r : SR g F as μ H) (n : Nat) : SR g F (as.take n) (μ.take n) H := by
  refine ⟨r.sub, by rw [List.length_take, List.length_take, r.len], fun k a c e1 e2 => ?_, r.nd.sublist (List.take_sublist _ _), fun a ha => r.live a (List.mem_of_mem_take ha)⟩
  have hk : k < n := by
    by_cases h : k < n
    · exact h
    · rw [List.getElem?_take_eq_none (by omega)] at e1; cases e1
  rw [List.getElem?_take_of_lt hk] at e1 e2
  rw [List.take_take, Nat.min_eq_left (Nat.le_of_lt hk)]
  exact r.cells k a c e1 e2
end
end Sz

set_option Elab.async false
set_option linter.all false
set_option maxRecDepth 100000
set_option maxHeartbeats 4000000
/-! Sz B: judgements. -/
namespace Sz
open PySem PySem.Spec L2

section
variable (X : Cx)
abbrev wpE (e : Expr) : TE := fun σ H Q => ∀ (pins : List (Addr × Obj)) (s : Shared), Inv X pins σ H s → wpAny (model X.prog X.w) X.A (eval e X.env) (EP X pins σ Q) X.xe s
abbrev wpT (e : Expr) : TT := fun σ H Q => ∀ (pins : List (Addr × Obj)) (s : Shared), Inv X pins σ H s → wpAny (model X.prog X.w) X.A (isTrue e X.env (eval e X.env)) (TP X pins σ Q) X.xe s
abbrev wpW (e : Expr) : TT := fun σ H Q => ∀ (whole : Sem Value) (pins : List (Addr × Obj)) (s : Shared), Inv X pins σ H s → wpAny (model X.prog X.w) X.A (isTrue e X.env whole) (TP X pins σ Q) X.xe s
abbrev wpA (es : List Expr) : TA := fun σ H Q => ∀ (pos : Pos) (pins : List (Addr × Obj)) (s : Shared), Inv X pins σ H s → wpAny (model X.prog X.w) X.A (spliced (backTo pos (starEach es X.env))) (AP X pins σ Q) X.xe s
abbrev wpK (ks : List Keyword) : TA := fun σ H Q => ∀ (pos : Pos) (pins : List (Addr × Obj)) (s : Shared), Inv X pins σ H s → wpAny (model X.prog X.w) X.A (evalAll ((backToKw pos (keywordEach ks X.env)).map (·.2))) (AP X pins σ Q) X.xe s
abbrev wpS (st : Stmt) : TS := fun D σ H => ∀ (pins : List (Addr × Obj)) (s : Shared), Inv X pins σ H s → wpAny (model X.prog X.w) X.A (exec st X.env) (SP X pins D) X.xe s
abbrev wpB (st : List Stmt) : TS := fun D σ H => ∀ (pins : List (Addr × Obj)) (s : Shared), Inv X pins σ H s → wpAny (model X.prog X.w) X.A (execs st X.env) (SP X pins D) X.xe s
end
section
variable {X : Cx} {e : Expr} {es : List Expr} {ks : List Keyword} {st : Stmt} {sts : List Stmt} {σ : L2.St} {H : Hp} {Q : VK}
theorem pe_wp : PE X e (wpE X e) := ⟨fun pins s _ _ _ I h => h pins s I⟩
theorem pt_wp : PT X e (wpT X e) := ⟨fun pins s _ _ _ I h => h pins s I⟩
theorem pw_wp : PW X e (wpW X e) := ⟨fun wh pins s _ _ _ I h => h wh pins s I⟩
theorem pa_wp : PA X es (wpA X es) := ⟨fun pos pins s _ _ _ I h => h pos pins s I⟩
theorem pk_wp : PK X ks (wpK X ks) := ⟨fun pos pins s _ _ _ I h => h pos pins s I⟩
theorem ps_wp : PS X st (wpS X st) := ⟨fun pins s _ _ _ I h => h pins s I⟩
theorem pss_wp : PSs X sts (wpB X sts) := ⟨fun pins s _ _ _ I h => h pins s I⟩
theorem wE {t : TE} (h : PE X e t) (q : t σ H Q) : wpE X e σ H Q := fun pins s I => h.run pins s σ H Q I q
theorem wT {t : TT} {Q : Bool → Hp → Prop} (h : PT X e t) (q : t σ H Q) : wpT X e σ H Q := fun pins s I => h.run pins s σ H Q I q
theorem wW {t : TT} {Q : Bool → Hp → Prop} (h : PW X e t) (q : t σ H Q) : wpW X e σ H Q := fun wh pins s I => h.run wh pins s σ H Q I q
theorem wA {t : TA} {Q : List V → Hp → Prop} (h : PA X es t) (q : t σ H Q) : wpA X es σ H Q := fun pos pins s I => h.run pos pins s σ H Q I q
theorem wK {t : TA} {Q : List V → Hp → Prop} (h : PK X ks t) (q : t σ H Q) : wpK X ks σ H Q := fun pos pins s I => h.run pos pins s σ H Q I q
theorem wS {t : TS} {D : Ends} (h : PS X st t) (q : t D σ H) : wpS X st D σ H := fun pins s I => h.run pins s σ H D I q
theorem wB {t : TS} {D : Ends} (h : PSs X sts t) (q : t D σ H) : wpB X sts D σ H := fun pins s I => h.run pins s σ H D I q
theorem wpE_mono {Q Q' : VK} (h : wpE X e σ H Q) (i : ∀ v H', Q v H' → Q' v H') : wpE X e σ H Q' := fun pins s I => thn (h pins s I) fun u s' ⟨v, H', I', r, q⟩ => ⟨v, H', I', r, i v H' q⟩
end

/-- what an exception stands for -/
def RX (g : G) (F H : Hp) : Ex → Value → Option Addr → Prop
  | .own c fs, cls, d => cls = .ref (g.cad c) ∧ ((fs = [] ∧ d = none) ∨ ∃ a vs, fs ≠ [] ∧ d = some a ∧ H a = some (.xd ((g.fl c).zip vs)) ∧ vs.length = (g.fl c).length ∧ Reps g F fs vs)
/-- what is wanted of an exception -/
def PErr (g : G) (W : WX) (F : Hp) (as : List Addr) (σ : L2.St) (x : Ex) (μ' : Sto) : Prop :=
  ∀ F' as' cls d H', Ext F as F' as' → SR g F' as' μ' H' → RX g F' H' x cls d → W cls d σ H'
def PostE (g : G) (W : WX) (F : Hp) (as : List Addr) (σ : L2.St) (Q : VK) : Except Ex S → Sto → Prop
  | .ok s, μ' => ∀ F' as' v H', Ext F as F' as' → SR g F' as' μ' H' → RA g F' as' H' s v → Q v H'
  | .error x, μ' => PErr g W F as σ x μ'
def PostT (g : G) (W : WX) (F : Hp) (as : List Addr) (σ : L2.St) (Q : Bool → Hp → Prop) : Except Ex Bool → Sto → Prop
  | .ok b, μ' => ∀ F' as' H', Ext F as F' as' → SR g F' as' μ' H' → Q b H'
  | .error x, μ' => PErr g W F as σ x μ'
def RSs (g : G) (F : Hp) (as : List Addr) (ss : List S) (vs : List V) : Prop := Paired (RS g F as) ss vs
def PostA (g : G) (W : WX) (F : Hp) (as : List Addr) (σ : L2.St) (Q : List V → Hp → Prop) : Except Ex (List S) → Sto → Prop
  | .ok ss, μ' => ∀ F' as' vs H', Ext F as F' as' → SR g F' as' μ' H' → RSs g F' as' ss vs → Q vs H'
  | .error x, μ' => PErr g W F as σ x μ'
theorem PErr.ext {g : G} {W : WX} {F F1 : Hp} {as as1 : List Addr} {σ : L2.St} {x : Ex} {μ : Sto} (e : Ext F as F1 as1) (h : PErr g W F as σ x μ) : PErr g W F1 as1 σ x μ :=
  fun F' as' cls d H' e' r q => h F' as' cls d H' (e.trans e') r q
theorem RSs.mono {g : G} {F F' : Hp} {as as' : List Addr} {ss : List S} {vs : List V} (e : Ext F as F' as') (h : RSs g F as ss vs) : RSs g F' as' ss vs := Paired.mapP h fun _ _ r => r.mono e

/-- a run of the shallow code: tests, argument lists -/
abbrev MT := En → Sto → Option (Except Ex Bool × Sto)
abbrev MA := En → Sto → Option (Except Ex (List S) × Sto)
structure SE (g : G) (X : Cx) (W : WX) (e : Expr) (m : ME) : Prop where
  run : ∀ (F : Hp) (as : List Addr) (ρ : En) (μ : Sto) (σ : L2.St) (H : Hp) (Q : VK) (r : Except Ex S) (μ' : Sto), m ρ μ = some (r, μ') → SR g F as μ H → ER g F as ρ σ → PostE g W F as σ Q r μ' → wpE X e σ H Q
structure STe (g : G) (X : Cx) (W : WX) (e : Expr) (m : MT) : Prop where
  run : ∀ (F : Hp) (as : List Addr) (ρ : En) (μ : Sto) (σ : L2.St) (H : Hp) (Q : Bool → Hp → Prop) (r : Except Ex Bool) (μ' : Sto), m ρ μ = some (r, μ') → SR g F as μ H → ER g F as ρ σ → PostT g W F as σ Q r μ' → wpT X e σ H Q
structure SW (g : G) (X : Cx) (W : WX) (e : Expr) (m : MT) : Prop where
  run : ∀ (F : Hp) (as : List Addr) (ρ : En) (μ : Sto) (σ : L2.St) (H : Hp) (Q : Bool → Hp → Prop) (r : Except Ex Bool) (μ' : Sto), m ρ μ = some (r, μ') → SR g F as μ H → ER g F as ρ σ → PostT g W F as σ Q r μ' → wpW X e σ H Q
structure SA (g : G) (X : Cx) (W : WX) (es : List Expr) (m : MA) : Prop where
  run : ∀ (F : Hp) (as : List Addr) (ρ : En) (μ : Sto) (σ : L2.St) (H : Hp) (Q : List V → Hp → Prop) (r : Except Ex (List S)) (μ' : Sto), m ρ μ = some (r, μ') → SR g F as μ H → ER g F as ρ σ → PostA g W F as σ Q r μ' → wpA X es σ H Q
structure SK (g : G) (X : Cx) (W : WX) (ks : List Keyword) (m : MA) : Prop where
  run : ∀ (F : Hp) (as : List Addr) (ρ : En) (μ : Sto) (σ : L2.St) (H : Hp) (Q : List V → Hp → Prop) (r : Except Ex (List S)) (μ' : Sto), m ρ μ = some (r, μ') → SR g F as μ H → ER g F as ρ σ → PostA g W F as σ Q r μ' → wpK X ks σ H Q

/-- one run behind another -/
def andThen {α β : Type} (r : Option (Except Ex α × Sto)) (f : α → Sto → Option (Except Ex β × Sto)) : Option (Except Ex β × Sto) :=
  match r with
  | none => none
  | some (.error x, μ) => some (.error x, μ)
  | some (.ok s, μ) => f s μ
theorem andThen_some {α β : Type} {r : Option (Except Ex α × Sto)} {f : α → Sto → Option (Except Ex β × Sto)} {q : Except Ex β × Sto} (h : andThen r f = some q) :
    (∃ x, r = some (.error x, q.2) ∧ q.1 = .error x) ∨ ∃ s μ, r = some (.ok s, μ) ∧ f s μ = some q := by
  unfold andThen at h
  match r, h with
  | none, h => cases h
  | some (.error x, μ), h =>
    cases h
    exact .inl ⟨x, rfl, rfl⟩
  | some (.ok s, μ), h => exact .inr ⟨s, μ, rfl, h⟩

section
variable {g : G} {X : Cx} {W : WX} {e : Expr} {m : ME} {F : Hp} {as : List Addr} {ρ : En} {μ : Sto} {σ : L2.St} {H : Hp} {β : Type}
/-- an expression, then what follows -/
theorem SE.then_ {Q : VK} {f : S → Sto → Option (Except Ex β × Sto)} {r : Except Ex β} {μ' : Sto} (he : SE g X W e m) (h : andThen (m ρ μ) f = some (r, μ')) (sr : SR g F as μ H) (er : ER g F as ρ σ)
    (hx : ∀ x, r = .error x → PErr g W F as σ x μ')
    (k : ∀ s μ1 F1 as1 v H1, f s μ1 = some (r, μ') → Ext F as F1 as1 → SR g F1 as1 μ1 H1 → ER g F1 as1 ρ σ → RA g F1 as1 H1 s v → Q v H1) : wpE X e σ H Q := by
  rcases andThen_some h with ⟨x, h1, h2⟩ | ⟨s, μ1, h1, h2⟩
  · exact he.run F as ρ μ σ H Q (.error x) μ' h1 sr er (hx x h2)
  · exact he.run F as ρ μ σ H Q (.ok s) μ1 h1 sr er fun F' as' v H' e' r' q => k s μ1 F' as' v H' h2 e' r' (er.mono e') q
theorem STe.then_ {e : Expr} {m : MT} {Q : Bool → Hp → Prop} {f : Bool → Sto → Option (Except Ex β × Sto)} {r : Except Ex β} {μ' : Sto} (he : STe g X W e m) (h : andThen (m ρ μ) f = some (r, μ')) (sr : SR g F as μ H) (er : ER g F as ρ σ)
    (hx : ∀ x, r = .error x → PErr g W F as σ x μ')
    (k : ∀ b μ1 F1 as1 H1, f b μ1 = some (r, μ') → Ext F as F1 as1 → SR g F1 as1 μ1 H1 → ER g F1 as1 ρ σ → Q b H1) : wpT X e σ H Q := by
  rcases andThen_some h with ⟨x, h1, h2⟩ | ⟨s, μ1, h1, h2⟩
  · exact he.run F as ρ μ σ H Q (.error x) μ' h1 sr er (hx x h2)
  · exact he.run F as ρ μ σ H Q (.ok s) μ1 h1 sr er fun F' as' H' e' r' => k s μ1 F' as' H' h2 e' r' (er.mono e')
theorem SA.then_ {es : List Expr} {m : MA} {Q : List V → Hp → Prop} {f : List S → Sto → Option (Except Ex β × Sto)} {r : Except Ex β} {μ' : Sto} (he : SA g X W es m) (h : andThen (m ρ μ) f = some (r, μ')) (sr : SR g F as μ H) (er : ER g F as ρ σ)
    (hx : ∀ x, r = .error x → PErr g W F as σ x μ')
    (k : ∀ ss μ1 F1 as1 vs H1, f ss μ1 = some (r, μ') → Ext F as F1 as1 → SR g F1 as1 μ1 H1 → ER g F1 as1 ρ σ → RSs g F1 as1 ss vs → Q vs H1) : wpA X es σ H Q := by
  rcases andThen_some h with ⟨x, h1, h2⟩ | ⟨s, μ1, h1, h2⟩
  · exact he.run F as ρ μ σ H Q (.error x) μ' h1 sr er (hx x h2)
  · exact he.run F as ρ μ σ H Q (.ok s) μ1 h1 sr er fun F' as' v H' e' r' q => k s μ1 F' as' v H' h2 e' r' (er.mono e') q
theorem SK.then_ {es : List Keyword} {m : MA} {Q : List V → Hp → Prop} {f : List S → Sto → Option (Except Ex β × Sto)} {r : Except Ex β} {μ' : Sto} (he : SK g X W es m) (h : andThen (m ρ μ) f = some (r, μ')) (sr : SR g F as μ H) (er : ER g F as ρ σ)
    (hx : ∀ x, r = .error x → PErr g W F as σ x μ')
    (k : ∀ ss μ1 F1 as1 vs H1, f ss μ1 = some (r, μ') → Ext F as F1 as1 → SR g F1 as1 μ1 H1 → ER g F1 as1 ρ σ → RSs g F1 as1 ss vs → Q vs H1) : wpK X es σ H Q := by
  rcases andThen_some h with ⟨x, h1, h2⟩ | ⟨s, μ1, h1, h2⟩
  · exact he.run F as ρ μ σ H Q (.error x) μ' h1 sr er (hx x h2)
  · exact he.run F as ρ μ σ H Q (.ok s) μ1 h1 sr er fun F' as' v H' e' r' q => k s μ1 F' as' v H' h2 e' r' (er.mono e') q
end

/-! ### rooting and viewing -/
def rt : S → S
  | .fr ds => .val (.lst ds)
  | .pot _ _ _ => .any
  | s => s
def vw (μ : Sto) : S → Option D
  | .val d => some d
  | .fr ds => some (.lst ds)
  | .cell k => match μ[k]? with
    | some (.lst ds) => some (.lst ds)
    | some (.frz d) => some d
    | _ => none
  | _ => none
/-- a value as it stands now: a list at the top may still be changed later -/
def VR (g : G) (F H : Hp) (d : D) (v : V) : Prop := (∃ ds a vs, d = .lst ds ∧ v = .ref a ∧ H a = some (.lst vs) ∧ Reps g F ds vs) ∨ Rep g F d v
section
variable {g : G} {F H : Hp} {as : List Addr} {μ : Sto} {s : S} {v : V} {d : D}
theorem root_ok (sr : SR g F as μ H) (h : RA g F as H s v) : ∃ F', Ext F as F' as ∧ SR g F' as μ H ∧ RS g F' as (rt s) v := by
  cases s with
  | val d => exact ⟨F, .refl, sr, h⟩
  | cell k => exact ⟨F, .refl, sr, h⟩
  | fr ds =>
    obtain ⟨p, vs, e1, e2, e3, e4, e5⟩ := (show ∃ p vs, v = .ref p ∧ H p = some (.lst vs) ∧ F p = none ∧ p ∉ as ∧ Reps g F ds vs from h)
    obtain ⟨r, x, y⟩ := sr.freeze (vs := vs) e2 e3 e4
    refine ⟨_, x, r, ?_⟩
    show Rep g _ (.lst ds) v
    unfold Rep
    exact ⟨p, vs, e1, y, e5.mono x.1⟩
  | pot j is ds => exact ⟨F, .refl, sr, trivial⟩
  | any => exact ⟨F, .refl, sr, trivial⟩
theorem view_rs (sr : SR g F as μ H) (h : RS g F as s v) (e : vw μ s = some d) : VR g F H d v := by
  cases s with
  | val d' =>
    cases e
    exact .inr h
  | fr ds => exact (show False from h).elim
  | cell k =>
    obtain ⟨a, h1, h2⟩ := (show ∃ a, as[k]? = some a ∧ v = .ref a from h)
    unfold vw at e
    simp only at e
    cases q : μ[k]? with
    | none => rw [q] at e; cases e
    | some c =>
      rw [q] at e
      have ok := sr.cells k a c h1 q
      cases c with
      | lst ds =>
        cases e
        obtain ⟨_, vs, e1, e2⟩ := ok
        exact .inl ⟨ds, a, vs, rfl, h2, e1, e2⟩
      | frz d' =>
        cases e
        subst h2
        exact .inr ok
      | ins c fs => cases e
      | pot j ds => cases e
  | pot j is ds => cases e
  | any => cases e
theorem view_ra (sr : SR g F as μ H) (h : RA g F as H s v) (e : vw μ s = some d) : VR g F H d v := by
  cases s with
  | val d' => exact view_rs (s := .val d') sr h e
  | cell k => exact view_rs (s := .cell k) sr h e
  | fr ds =>
    obtain ⟨p, vs, e1, e2, e3, e4, e5⟩ := (show ∃ p vs, v = .ref p ∧ H p = some (.lst vs) ∧ F p = none ∧ p ∉ as ∧ Reps g F ds vs from h)
    cases e
    exact .inl ⟨ds, p, vs, rfl, e1, e2, e5⟩
  | pot j is ds => cases e
  | any => cases e
/-- a slot's thing as a tree: a cell's list is frozen there -/
def toD (μ : Sto) : S → Option (D × Sto)
  | .val d => some (d, μ)
  | .fr ds => some (.lst ds, μ)
  | .cell k => match μ[k]? with
    | some (.lst ds) => some (.lst ds, μ.set k (.frz (.lst ds)))
    | some (.frz d) => some (d, μ)
    | _ => none
  | _ => none
theorem toD_rs {μ' : Sto} (sr : SR g F as μ H) (h : RS g F as s v) (e : toD μ s = some (d, μ')) : ∃ F', Ext F as F' as ∧ SR g F' as μ' H ∧ Rep g F' d v := by
  cases s with
  | val d' =>
    cases e
    exact ⟨F, .refl, sr, h⟩
  | fr ds => exact (show False from h).elim
  | cell k =>
    obtain ⟨a, h1, h2⟩ := (show ∃ a, as[k]? = some a ∧ v = .ref a from h)
    unfold toD at e
    simp only at e
    cases q : μ[k]? with
    | none => rw [q] at e; cases e
    | some c =>
      rw [q] at e
      have ok := sr.cells k a c h1 q
      cases c with
      | lst ds =>
        cases e
        obtain ⟨e0, vs, e1, e2⟩ := ok
        have hr : Rep g (upd F a (.lst vs)) (.lst ds) (.ref a) := by
          unfold Rep
          exact ⟨a, vs, rfl, upd_same, e2.mono (same_upd e0)⟩
        obtain ⟨r, x⟩ := sr.still h1 e1 e0 hr
        exact ⟨_, x, r, by rw [h2]; exact hr⟩
      | frz d' =>
        cases e
        subst h2
        exact ⟨F, .refl, sr, ok⟩
      | ins c fs => cases e
      | pot j ds => cases e
  | pot j is ds => cases e
  | any => cases e
/-- several -/
def toDs (μ : Sto) : List S → Option (List D × Sto)
  | [] => some ([], μ)
  | s :: ss => match toD μ s with
    | none => none
    | some (d, μ1) => match toDs μ1 ss with
      | none => none
      | some (ds, μ2) => some (d :: ds, μ2)
theorem toDs_rs : ∀ {ss : List S} {vs : List V} {F : Hp} {μ μ' : Sto} {ds : List D}, SR g F as μ H → RSs g F as ss vs → toDs μ ss = some (ds, μ') → ∃ F', Ext F as F' as ∧ SR g F' as μ' H ∧ Reps g F' ds vs
  | [], _, F, μ, μ', ds, sr, h, e => by
    cases h
    cases e
    exact ⟨F, .refl, sr, Reps.nil⟩
  | s :: ss, vs, F, μ, μ', ds, sr, h, e => by
    cases h with
    | cons h t =>
      unfold toDs at e
      cases q : toD μ s with
      | none => rw [q] at e; cases e
      | some p =>
        obtain ⟨d, μ1⟩ := p
        rw [q] at e
        simp only at e
        obtain ⟨F1, x1, sr1, r1⟩ := toD_rs sr h q
        cases q2 : toDs μ1 ss with
        | none => rw [q2] at e; cases e
        | some p =>
          obtain ⟨ds', μ2⟩ := p
          rw [q2] at e
          cases e
          obtain ⟨F2, x2, sr2, r2⟩ := toDs_rs sr1 (RSs.mono x1 t) q2
          exact ⟨F2, x1.trans x2, sr2, Reps.cons (Rep.mono x2.1 r1) r2⟩
def vws (μ : Sto) : List S → Option (List D)
  | [] => some []
  | s :: ss => match vw μ s, vws μ ss with
    | some d, some ds => some (d :: ds)
    | _, _ => none
def VRs (g : G) (F H : Hp) (ds : List D) (vs : List V) : Prop := Paired (VR g F H) ds vs
theorem views_rs (sr : SR g F as μ H) : ∀ {ss : List S} {vs : List V} {ds : List D}, RSs g F as ss vs → vws μ ss = some ds → VRs g F H ds vs
  | [], _, _, h, e => by
    cases h
    cases e
    exact .nil
  | s :: ss, _, ds, .cons h t, e => by
    unfold vws at e
    cases q : vw μ s with
    | none => rw [q] at e; simp at e
    | some d =>
      cases q2 : vws μ ss with
      | none => rw [q, q2] at e; simp at e
      | some ds' =>
        rw [q, q2] at e
        simp only [Option.some.injEq] at e
        subst e
        exact .cons (view_rs sr h q) (views_rs sr t q2)
end
end Sz

set_option Elab.async false
set_option linter.all false
set_option maxRecDepth 100000
set_option maxHeartbeats 4000000
/-! Sz C: expressions: names, constants, operators, comparisons, tests, displays, places, attributes. -/
namespace Sz
open PySem PySem.Spec L2

/-! ### names, constants -/
def mVar (i : Nat) : ME := fun ρ μ => match ρ[i]? with
  | some (some s) => some (.ok s, μ)
  | _ => none
def mK (d : D) : ME := fun _ μ => some (.ok (.val d), μ)
section
variable {g : G} {X : Cx} {W : WX} {pos : Pos}
theorem se_var {i : Nat} {x : Str} (hN : X.N[i]? = some x) (hv : Vis X.env.scope x) (hd : (x == ("__debug__" : Str)) = false) (hcd : (x == ("__classdict__" : Str)) = false) : SE g X W (.Name x pos) (mVar i) := by
  refine ⟨fun F as ρ μ σ H Q r μ' h sr er post => ?_⟩
  unfold mVar at h
  split at h
  · rename_i s q
    cases h
    obtain ⟨v, e1, e2⟩ := er.at_ i s q
    exact wE (pe_var hN hv hd hcd) ⟨v, e1, post F as v H .refl sr e2.ra⟩
  · cases h
theorem se_k {e : Expr} {d : D} {v : V} (he : PE X e (tC v)) (rep : ∀ F, Rep g F d v) : SE g X W e (mK d) := by
  refine ⟨fun F as ρ μ σ H Q r μ' h sr er post => ?_⟩
  cases h
  exact wE he (post F as v H .refl sr (rep F))
theorem se_int {i : Int} {k : Nat} : SE g X W (.Constant (.int i) k pos) (mK (.int i)) := se_k pe_int fun F => by unfold Rep; rfl
theorem se_bl {b : Bool} {k : Nat} : SE g X W (.Constant (.bool b) k pos) (mK (.bl b)) := se_k pe_bl fun F => by unfold Rep; rfl
theorem se_non {k : Nat} : SE g X W (.Constant .none k pos) (mK .non) := se_k pe_non fun F => by unfold Rep; rfl
theorem se_str {x : Str} {k : Nat} : SE g X W (.Constant (.str x) k pos) (mK (.str x)) := se_k pe_str fun F => by unfold Rep; rfl
end

/-! ### two operands -/
/-- an operation by its values, whatever the slots -/
abbrev rcan (X : Cx) (f : Value → Value → Sem Value) : R2 := fun x y H Q => ∀ (pins : List (Addr × Obj)) (s : Shared) (σ : L2.St) (v u : Value), Inv X pins σ H s → RelV x v → RelV y u → wpAny (model X.prog X.w) X.A (f v u) (EP X pins σ Q) X.xe s
theorem op_can {X : Cx} {f : Value → Value → Sem Value} : OpR X f (rcan X f) := fun pins s σ H x y v u Q I rx ry h => h pins s σ v u I rx ry
theorem oc {X : Cx} {f : Value → Value → Sem Value} {r : R2} (h : OpR X f r) {x y : V} {H : Hp} {Q : VK} (q : r x y H Q) : rcan X f x y H Q := fun pins s σ v u I rx ry => h pins s σ H x y v u Q I rx ry q
/-- what a two-place operation tells of trees -/
def OpOk (g : G) (X : Cx) (f : Value → Value → Sem Value) (op : D → D → Option S) : Prop :=
  ∀ (x y : D) (s : S) (F : Hp) (as : List Addr) (μ : Sto) (H : Hp) (v u : V) (Q : VK), op x y = some s → SR g F as μ H → VR g F H x v → VR g F H y u →
    (∀ F' as' w H', Ext F as F' as' → SR g F' as' μ H' → RA g F' as' H' s w → Q w H') → rcan X f v u H Q
def fin2 (op : D → D → Option S) (μ : Sto) (s1 s2 : S) : Option R :=
  match vw μ s1, vw μ s2 with
  | some x, some y => (match op x y with
    | some s => some (.ok s, μ)
    | none => none)
  | _, _ => none
theorem fin2_some {op : D → D → Option S} {μ μ' : Sto} {s1 s2 : S} {r : Except Ex S} (h : fin2 op μ s1 s2 = some (r, μ')) : ∃ x y s, vw μ s1 = some x ∧ vw μ s2 = some y ∧ op x y = some s ∧ r = .ok s ∧ μ' = μ := by
  unfold fin2 at h
  split at h
  · rename_i x y h1 h2
    split at h
    · rename_i s h3
      cases h
      exact ⟨x, y, s, h1, h2, h3, rfl, rfl⟩
    · cases h
  · cases h
def mOp2 (op : D → D → Option S) (a b : ME) : ME := fun ρ μ => andThen (a ρ μ) fun s1 μ1 => andThen (b ρ μ1) fun s2 μ2 => fin2 op μ2 (rt s1) s2
section
variable {g : G} {X : Cx} {W : WX} {a b : Expr} {ma mb : ME} {dop : D → D → Option S} {pos : Pos}
theorem two_ok {f : Value → Value → Sem Value} {F : Hp} {as : List Addr} {ρ : En} {μ : Sto} {σ : L2.St} {H : Hp} {Q : VK} {r : Except Ex S} {μ' : Sto} (ho : OpOk g X f dop) (ha : SE g X W a ma) (hb : SE g X W b mb)
    (h : mOp2 dop ma mb ρ μ = some (r, μ')) (sr : SR g F as μ H) (er : ER g F as ρ σ) (post : PostE g W F as σ Q r μ') : wpE X a σ H fun x H1 => wpE X b σ H1 fun y H2 => rcan X f x y H2 Q := by
  refine ha.then_ h sr er (fun x e => by subst e; exact post) fun s1 μ1 F1 as1 v1 H1 h1 x1 sr1 er1 ra1 => ?_
  obtain ⟨F1', x1', sr1', rs1⟩ := root_ok sr1 ra1
  refine hb.then_ h1 sr1' (er1.mono x1') (fun x e => by subst e; exact PErr.ext (x1.trans x1') post) fun s2 μ2 F2 as2 v2 H2 h2 x2 sr2 er2 ra2 => ?_
  obtain ⟨x, y, s, e1, e2, e3, e4, e5⟩ := fin2_some h2
  subst e4 e5
  exact ho x y s F2 as2 μ' H2 v1 v2 Q e3 sr2 (view_rs sr2 (rs1.mono x2) e1) (view_ra sr2 ra2 e2) fun F' as' w H' e' r' q => post F' as' w H' ((x1.trans x1').trans (x2.trans e')) r' q
theorem se_bin {op : Operator} (ho : OpOk g X (binaryOp op) dop) (ha : SE g X W a ma) (hb : SE g X W b mb) : SE g X W (.BinOp a op b pos) (mOp2 dop ma mb) :=
  ⟨fun F as ρ μ σ H Q r μ' h sr er post => wE (pe_op op_can pe_wp pe_wp) (two_ok ho ha hb h sr er post)⟩
theorem se_cmp {op : CmpOp} (ho : OpOk g X (compareOp op) dop) (ha : SE g X W a ma) (hb : SE g X W b mb) (hm : behindInMarks op b = false) : SE g X W (.Compare a [op] [b] pos) (mOp2 dop ma mb) :=
  ⟨fun F as ρ μ σ H Q r μ' h sr er post => wE (pe_cmpR op_can pe_wp pe_wp hm) (two_ok ho ha hb h sr er post)⟩
end
/-- a op1 b op2 c; both give truths -/
def bl? : S → Option Bool
  | .val (.bl b) => some b
  | _ => none
def mChain (op op' : D → D → Option S) (a b c : ME) : ME := fun ρ μ => andThen (a ρ μ) fun s1 μ1 => andThen (b ρ μ1) fun s2 μ2 => andThen (fin2 op μ2 (rt s1) (rt s2)) fun s3 μ3 => match bl? s3 with
  | some true => andThen (c ρ μ3) fun s4 μ4 => fin2 op' μ4 (rt s2) s4
  | some false => some (.ok (.val (.bl false)), μ3)
  | none => none
theorem bl?_some {s : S} {b : Bool} (h : bl? s = some b) : s = .val (.bl b) := by
  unfold bl? at h
  split at h
  · cases h; rfl
  · cases h
section
variable {g : G} {X : Cx} {W : WX} {a b c : Expr} {ma mb mc : ME} {dop dop' : D → D → Option S} {pos : Pos}
theorem chain_ok {op op' : CmpOp} {F : Hp} {as : List Addr} {ρ : En} {μ : Sto} {σ : L2.St} {H : Hp} {Q : VK} {r : Except Ex S} {μ' : Sto} (ho : OpOk g X (compareOp op) dop) (ho' : OpOk g X (compareOp op') dop') (ha : SE g X W a ma) (hb : SE g X W b mb) (hc : SE g X W c mc)
    (h : mChain dop dop' ma mb mc ρ μ = some (r, μ')) (sr : SR g F as μ H) (er : ER g F as ρ σ) (post : PostE g W F as σ Q r μ') : tChain (rcan X (compareOp op)) (rcan X (compareOp op')) (wpE X a) (wpE X b) (wpE X c) σ H Q := by
  refine ha.then_ h sr er (fun x e => by subst e; exact post) fun s1 μ1 F1 as1 v1 H1 h1 x1 sr1 er1 ra1 => ?_
  obtain ⟨F1', x1', sr1', rs1⟩ := root_ok sr1 ra1
  refine hb.then_ h1 sr1' (er1.mono x1') (fun x e => by subst e; exact PErr.ext (x1.trans x1') post) fun s2 μ2 F2 as2 v2 H2 h2 x2 sr2 er2 ra2 => ?_
  obtain ⟨F2', x2', sr2', rs2⟩ := root_ok sr2 ra2
  rcases andThen_some h2 with ⟨x, h3, h4⟩ | ⟨s3, μ3, h3, h4⟩
  · obtain ⟨_, _, _, _, _, _, e, _⟩ := fin2_some h3
    cases e
  · obtain ⟨x, y, s, e1, e2, e3, e4, e5⟩ := fin2_some h3
    cases e4
    subst e5
    have x02 : Ext F as F2' as2 := (x1.trans x1').trans (x2.trans x2')
    refine ho x y s3 F2' as2 μ3 H2 v1 v2 _ e3 sr2' (view_rs sr2' ((rs1.mono x2).mono x2') e1) (view_rs sr2' rs2 e2) fun F3 as3 w H3 x3 sr3 ra3 => ?_
    cases q : bl? s3 with
    | none => rw [q] at h4; cases h4
    | some k =>
      rw [q] at h4
      rw [bl?_some q] at ra3
      refine ⟨k, ra3, ?_⟩
      have er3 : ER g F3 as3 ρ σ := (er2.mono x2').mono x3
      cases k with
      | false =>
        rw [if_neg Bool.false_ne_true]
        cases h4
        exact post F3 as3 _ H3 (x02.trans x3) sr3 rfl
      | true =>
        rw [if_pos rfl]
        refine hc.then_ h4 sr3 er3 (fun x e => by subst e; exact PErr.ext (x02.trans x3) post) fun s4 μ4 F4 as4 v4 H4 h5 x4 sr4 er4 ra4 => ?_
        obtain ⟨x', y', s', e1', e2', e3', e4', e5'⟩ := fin2_some h5
        subst e4' e5'
        exact ho' x' y' s' F4 as4 μ' H4 v2 v4 Q e3' sr4 (view_rs sr4 ((rs2.mono x3).mono x4) e1') (view_ra sr4 ra4 e2') fun F' as' w' H' e' r' q' => post F' as' w' H' ((x02.trans x3).trans (x4.trans e')) r' q'
theorem se_chain {op op' : CmpOp} (ho : OpOk g X (compareOp op) dop) (ho' : OpOk g X (compareOp op') dop') (ha : SE g X W a ma) (hb : SE g X W b mb) (hc : SE g X W c mc) (hm : lastMarks [op, op'] [b, c] = false) :
    SE g X W (.Compare a [op, op'] [b, c] pos) (mChain dop dop' ma mb mc) :=
  ⟨fun F as ρ μ σ H Q r μ' h sr er post => wE (pe_chain op_can op_can pe_wp pe_wp pe_wp hm) (chain_ok ho ho' ha hb hc h sr er post)⟩
end

/-! ### one operand -/
def UnOk (g : G) (X : Cx) (f : Value → Sem Value) (op : D → Option S) : Prop :=
  ∀ (x : D) (s : S) (F : Hp) (as : List Addr) (μ : Sto) (H : Hp) (v : V) (Q : VK), op x = some s → SR g F as μ H → VR g F H x v →
    (∀ F' as' w H', Ext F as F' as' → SR g F' as' μ H' → RA g F' as' H' s w → Q w H') → ∀ (pins : List (Addr × Obj)) (st : Shared) (σ : L2.St) (a : Value), Inv X pins σ H st → RelV v a → wpAny (model X.prog X.w) X.A (f a) (EP X pins σ Q) X.xe st
def fin1 (op : D → Option S) (μ : Sto) (s1 : S) : Option R :=
  match vw μ s1 with
  | some x => (match op x with
    | some s => some (.ok s, μ)
    | none => none)
  | _ => none
theorem fin1_some {op : D → Option S} {μ μ' : Sto} {s1 : S} {r : Except Ex S} (h : fin1 op μ s1 = some (r, μ')) : ∃ x s, vw μ s1 = some x ∧ op x = some s ∧ r = .ok s ∧ μ' = μ := by
  unfold fin1 at h
  split at h
  · rename_i x h1
    split at h
    · rename_i s h3
      cases h
      exact ⟨x, s, h1, h3, rfl, rfl⟩
    · cases h
  · cases h
def mOp1 (op : D → Option S) (a : ME) : ME := fun ρ μ => andThen (a ρ μ) fun s1 μ1 => fin1 op μ1 s1
def dNeg : D → Option S
  | .int i => some (.val (.int (-i)))
  | _ => none
def dNot : D → Option S
  | .bl b => some (.val (.bl (!b)))
  | _ => none
section
variable {g : G} {X : Cx} {W : WX} {a : Expr} {ma : ME} {pos : Pos} {F H : Hp} {v : V}
theorem vr_int {i : Int} (h : VR g F H (.int i) v) : v = .int i := by
  rcases h with ⟨_, _, _, e, _⟩ | h
  · cases e
  · unfold Rep at h; exact h
theorem vr_bl {b : Bool} (h : VR g F H (.bl b) v) : v = .bl b := by
  rcases h with ⟨_, _, _, e, _⟩ | h
  · cases e
  · unfold Rep at h; exact h
theorem vr_str {x : Str} (h : VR g F H (.str x) v) : v = .str x := by
  rcases h with ⟨_, _, _, e, _⟩ | h
  · cases e
  · unfold Rep at h; exact h
theorem vr_non (h : VR g F H .non v) : v = .non := by
  rcases h with ⟨_, _, _, e, _⟩ | h
  · cases e
  · unfold Rep at h; exact h
theorem vr_lst {as : List Addr} {μ : Sto} {ds : List D} (sr : SR g F as μ H) (h : VR g F H (.lst ds) v) : ∃ a vs, v = .ref a ∧ H a = some (.lst vs) ∧ Reps g F ds vs := by
  rcases h with ⟨ds', a, vs, e, e1, e2, e3⟩ | h
  · cases e
    exact ⟨a, vs, e1, e2, e3⟩
  · unfold Rep at h
    obtain ⟨a, vs, e1, e2, e3⟩ := h
    exact ⟨a, vs, e1, sr.sub _ _ e2, e3⟩
theorem vr_tup {as : List Addr} {μ : Sto} {ds : List D} (sr : SR g F as μ H) (h : VR g F H (.tup ds) v) : ∃ a vs, v = .ref a ∧ SqT g.K H a vs ∧ Reps g F ds vs := by
  rcases h with ⟨ds', a, vs, e, e1, e2, e3⟩ | h
  · cases e
  · unfold Rep at h
    obtain ⟨a, vs, e1, e2, e3⟩ := h
    exact ⟨a, vs, e1, seqT_mono sr.sub e2, e3⟩
theorem vr_scr {as : List Addr} {μ : Sto} {ns : List Int} (sr : SR g F as μ H) (h : VR g F H (.scr ns) v) : ∃ a, v = .ref a ∧ SqL g.K H a (ns.map V.int) := by
  rcases h with ⟨ds', a, vs, e, e1, e2, e3⟩ | h
  · cases e
  · unfold Rep at h
    obtain ⟨a, e1, e2⟩ := h
    exact ⟨a, e1, sr.sub.seq e2⟩
theorem ra_int {as : List Addr} {i : Int} : RA g F as H (.val (.int i)) (.int i) := by show Rep g F _ _; unfold Rep; rfl
theorem ra_bl {as : List Addr} {b : Bool} : RA g F as H (.val (.bl b)) (.bl b) := by show Rep g F _ _; unfold Rep; rfl
theorem ra_str {as : List Addr} {x : Str} : RA g F as H (.val (.str x)) (.str x) := by show Rep g F _ _; unfold Rep; rfl
theorem ra_non {as : List Addr} : RA g F as H (.val .non) .non := by show Rep g F _ _; unfold Rep; rfl
theorem se_un {op : UnaryOp} {dop : D → Option S} (ho : UnOk g X (unaryOp op) dop) (ha : SE g X W a ma) : SE g X W (.UnaryOp op a pos) (mOp1 dop ma) := by
  refine ⟨fun F as ρ μ σ H Q r μ' h sr er post => wE (pe_un (r := fun x H Q => ∀ (pins : List (Addr × Obj)) (st : Shared) (σ : L2.St) (v : Value), Inv X pins σ H st → RelV x v → wpAny (model X.prog X.w) X.A (unaryOp op v) (EP X pins σ Q) X.xe st)
    (fun pins s σ H x v Q I rx h => h pins s σ v I rx) pe_wp) ?_⟩
  refine ha.then_ h sr er (fun x e => by subst e; exact post) fun s1 μ1 F1 as1 v1 H1 h1 x1 sr1 er1 ra1 => ?_
  obtain ⟨x, s, e1, e2, e3, e4⟩ := fin1_some h1
  subst e3 e4
  exact ho x s F1 as1 μ' H1 v1 Q e2 sr1 (view_ra sr1 ra1 e1) fun F' as' w H' e' r' q => post F' as' w H' (x1.trans e') r' q
theorem un_ok_neg : UnOk g X (unaryOp .USub) dNeg := by
  intro x s F as μ H v Q e sr vr k pins st σ a I rx
  unfold dNeg at e
  split at e
  · cases e
    cases vr_int vr
    exact un_neg pins st σ H _ a Q I rx ⟨_, rfl, k F as _ H .refl sr ra_int⟩
  · cases e
/-- not a, a truth (or a test) -/
theorem se_not (ha : SE g X W a ma) : SE g X W (.UnaryOp .Not a pos) (mOp1 dNot ma) := by
  refine ⟨fun F as ρ μ σ H Q r μ' h sr er post => wE (pe_not pe_wp) ?_⟩
  refine ha.then_ h sr er (fun x e => by subst e; exact post) fun s1 μ1 F1 as1 v1 H1 h1 x1 sr1 er1 ra1 => ?_
  obtain ⟨x, s, e1, e2, e3, e4⟩ := fin1_some h1
  subst e3 e4
  unfold dNot at e2
  split at e2
  · rename_i b
    cases e2
    exact ⟨b, vr_bl (view_ra sr1 ra1 e1), post F1 as1 _ H1 x1 sr1 ra_bl⟩
  · cases e2
end

/-! ### and, or: all but the last are truths -/
def mAnd (a b : ME) : ME := fun ρ μ => andThen (a ρ μ) fun s μ1 => match bl? s with
  | some true => b ρ μ1
  | some false => some (.ok (.val (.bl false)), μ1)
  | none => none
def mOr (a b : ME) : ME := fun ρ μ => andThen (a ρ μ) fun s μ1 => match bl? s with
  | some false => b ρ μ1
  | some true => some (.ok (.val (.bl true)), μ1)
  | none => none
section
variable {g : G} {X : Cx} {W : WX} {a b : Expr} {rest : List Expr} {ma mb : ME} {pos : Pos}
theorem se_one {op : BoolOp} (ha : SE g X W a ma) : SE g X W (.BoolOp op [a] pos) ma :=
  ⟨fun F as ρ μ σ H Q r μ' h sr er post => wE (pe_one pe_wp) (ha.run F as ρ μ σ H Q r μ' h sr er post)⟩
theorem se_and (ha : SE g X W a ma) (hb : SE g X W (.BoolOp .And (b :: rest) pos) mb) : SE g X W (.BoolOp .And (a :: b :: rest) pos) (mAnd ma mb) := by
  refine ⟨fun F as ρ μ σ H Q r μ' h sr er post => wE (pe_and pe_wp pe_wp) ?_⟩
  refine ha.then_ h sr er (fun x e => by subst e; exact post) fun s1 μ1 F1 as1 v1 H1 h1 x1 sr1 er1 ra1 => ?_
  cases q : bl? s1 with
  | none => rw [q] at h1; cases h1
  | some k =>
    rw [q] at h1
    rw [bl?_some q] at ra1
    refine ⟨k, ra1, ?_⟩
    cases k with
    | true =>
      rw [if_pos rfl]
      exact hb.run F1 as1 ρ μ1 σ H1 Q r μ' h1 sr1 er1 (by cases r with
        | ok s => exact fun F' as' v H' e' r' q' => post F' as' v H' (x1.trans e') r' q'
        | error x => exact PErr.ext x1 post)
    | false =>
      rw [if_neg Bool.false_ne_true]
      cases h1
      exact post F1 as1 _ H1 x1 sr1 ra_bl
theorem se_or (ha : SE g X W a ma) (hb : SE g X W (.BoolOp .Or (b :: rest) pos) mb) : SE g X W (.BoolOp .Or (a :: b :: rest) pos) (mOr ma mb) := by
  refine ⟨fun F as ρ μ σ H Q r μ' h sr er post => wE (pe_or pe_wp pe_wp) ?_⟩
  refine ha.then_ h sr er (fun x e => by subst e; exact post) fun s1 μ1 F1 as1 v1 H1 h1 x1 sr1 er1 ra1 => ?_
  cases q : bl? s1 with
  | none => rw [q] at h1; cases h1
  | some k =>
    rw [q] at h1
    rw [bl?_some q] at ra1
    refine ⟨k, ra1, ?_⟩
    cases k with
    | false =>
      rw [if_neg Bool.false_ne_true]
      exact hb.run F1 as1 ρ μ1 σ H1 Q r μ' h1 sr1 er1 (by cases r with
        | ok s => exact fun F' as' v H' e' r' q' => post F' as' v H' (x1.trans e') r' q'
        | error x => exact PErr.ext x1 post)
    | true =>
      rw [if_pos rfl]
      cases h1
      exact post F1 as1 _ H1 x1 sr1 ra_bl
end

/-! ### tests -/
def tBl (a : ME) : MT := fun ρ μ => andThen (a ρ μ) fun s μ1 => match bl? s with
  | some b => some (.ok b, μ1)
  | none => none
def tNotM (a : MT) : MT := fun ρ μ => andThen (a ρ μ) fun b μ1 => some (.ok (!b), μ1)
def tAndM (a b : MT) : MT := fun ρ μ => andThen (a ρ μ) fun c μ1 => if c then b ρ μ1 else some (.ok false, μ1)
def tOrM (a b : MT) : MT := fun ρ μ => andThen (a ρ μ) fun c μ1 => if c then some (.ok true, μ1) else b ρ μ1
def mIf (t : MT) (a b : ME) : ME := fun ρ μ => andThen (t ρ μ) fun c μ1 => if c then a ρ μ1 else b ρ μ1
section
variable {g : G} {X : Cx} {W : WX} {a b c : Expr} {rest : List Expr} {ma mb : ME} {ta tb : MT} {pos : Pos}
theorem PostT.ext {F F1 : Hp} {as as1 : List Addr} {σ : L2.St} {Q : Bool → Hp → Prop} {r : Except Ex Bool} {μ : Sto} (e : Ext F as F1 as1) (h : PostT g W F as σ Q r μ) : PostT g W F1 as1 σ Q r μ := by
  cases r with
  | ok b => exact fun F' as' H' e' r' => h F' as' H' (e.trans e') r'
  | error x => exact PErr.ext e h
theorem PostE.ext {F F1 : Hp} {as as1 : List Addr} {σ : L2.St} {Q : VK} {r : Except Ex S} {μ : Sto} (e : Ext F as F1 as1) (h : PostE g W F as σ Q r μ) : PostE g W F1 as1 σ Q r μ := by
  cases r with
  | ok b => exact fun F' as' v H' e' r' q => h F' as' v H' (e.trans e') r' q
  | error x => exact PErr.ext e h
/-- a value that is a truth, as a test -/
theorem tBl_run {F : Hp} {as : List Addr} {ρ : En} {μ : Sto} {σ : L2.St} {H : Hp} {Q : Bool → Hp → Prop} {r : Except Ex Bool} {μ' : Sto} (ha : SE g X W a ma) (h : tBl ma ρ μ = some (r, μ')) (sr : SR g F as μ H) (er : ER g F as ρ σ)
    (post : PostT g W F as σ Q r μ') : wpE X a σ H fun x H1 => ∃ c, x = .bl c ∧ Q c H1 := by
  refine ha.then_ h sr er (fun x e => by subst e; exact post) fun s1 μ1 F1 as1 v1 H1 h1 x1 sr1 er1 ra1 => ?_
  cases q : bl? s1 with
  | none => rw [q] at h1; cases h1
  | some k =>
    rw [q] at h1
    rw [bl?_some q] at ra1
    cases h1
    exact ⟨k, ra1, post F1 as1 H1 x1 sr1⟩
theorem st_val (ha : SE g X W a ma) (he : ∀ whole, isTrue a X.env whole = (do let v ← whole; standAt a.pos; holding [v] (truthy v))) : STe g X W a (tBl ma) :=
  ⟨fun F as ρ μ σ H Q r μ' h sr er post => wT (pt_val pe_wp he) (tBl_run ha h sr er post)⟩
theorem st_cmp {op : CmpOp} {dop : D → D → Option S} (ho : OpOk g X (compareOp op) dop) (ha : SE g X W a ma) (hb : SE g X W b mb) (hm : behindInMarks op b = false) : STe g X W (.Compare a [op] [b] pos) (tBl (mOp2 dop ma mb)) := by
  refine ⟨fun F as ρ μ σ H Q r μ' h sr er post => wT (pt_cmpR op_can pe_wp pe_wp hm) ?_⟩
  show tOp _ _ _ σ H fun x H' => ∃ k, x = .bl k ∧ Q k H'
  rcases andThen_some h with ⟨x, h1, h2⟩ | ⟨s1, μ1, h1, h2⟩
  · dsimp only at h2
    subst h2
    exact two_ok ho ha hb h1 sr er (show PostE g W F as σ _ (.error x) μ' from post)
  · refine two_ok ho ha hb h1 sr er fun F' as' v H' e' r' q => ?_
    cases z : bl? s1 with
    | none => rw [z] at h2; cases h2
    | some k =>
      rw [z] at h2
      rw [bl?_some z] at q
      cases h2
      exact ⟨k, q, post F' as' H' e' r'⟩
theorem st_chain {op op' : CmpOp} {dop dop' : D → D → Option S} {mc : ME} (ho : OpOk g X (compareOp op) dop) (ho' : OpOk g X (compareOp op') dop') (ha : SE g X W a ma) (hb : SE g X W b mb) (hc : SE g X W c mc) (hm : lastMarks [op, op'] [b, c] = false) :
    STe g X W (.Compare a [op, op'] [b, c] pos) (tBl (mChain dop dop' ma mb mc)) := by
  refine ⟨fun F as ρ μ σ H Q r μ' h sr er post => wT (pt_chain op_can op_can pe_wp pe_wp pe_wp hm) ?_⟩
  show tChain _ _ _ _ _ σ H fun x H' => ∃ k, x = .bl k ∧ Q k H'
  rcases andThen_some h with ⟨x, h1, h2⟩ | ⟨s1, μ1, h1, h2⟩
  · dsimp only at h2
    subst h2
    exact chain_ok ho ho' ha hb hc h1 sr er (show PostE g W F as σ _ (.error x) μ' from post)
  · refine chain_ok ho ho' ha hb hc h1 sr er fun F' as' v H' e' r' q => ?_
    cases z : bl? s1 with
    | none => rw [z] at h2; cases h2
    | some k =>
      rw [z] at h2
      rw [bl?_some z] at q
      cases h2
      exact ⟨k, q, post F' as' H' e' r'⟩
theorem st_not (ha : STe g X W a ta) : STe g X W (.UnaryOp .Not a pos) (tNotM ta) := by
  refine ⟨fun F as ρ μ σ H Q r μ' h sr er post => wT (pt_not pt_wp) ?_⟩
  refine ha.then_ h sr er (fun x e => by subst e; exact post) fun b μ1 F1 as1 H1 h1 x1 sr1 er1 => ?_
  cases h1
  exact post F1 as1 H1 x1 sr1
theorem sw_one (op : BoolOp) (ha : STe g X W a ta) : SW g X W (.BoolOp op [a] pos) ta := by
  cases op with
  | And => exact ⟨fun F as ρ μ σ H Q r μ' h sr er post => wW (pw_and1 pt_wp) (ha.run F as ρ μ σ H Q r μ' h sr er post)⟩
  | Or => exact ⟨fun F as ρ μ σ H Q r μ' h sr er post => wW (pw_or1 pt_wp) (ha.run F as ρ μ σ H Q r μ' h sr er post)⟩
theorem sw_and (ha : STe g X W a ta) (hb : SW g X W (.BoolOp .And (b :: rest) pos) tb) : SW g X W (.BoolOp .And (a :: b :: rest) pos) (tAndM ta tb) := by
  refine ⟨fun F as ρ μ σ H Q r μ' h sr er post => wW (pw_and pt_wp pw_wp) ?_⟩
  refine ha.then_ h sr er (fun x e => by subst e; exact post) fun k μ1 F1 as1 H1 h1 x1 sr1 er1 => ?_
  cases k with
  | true => rw [if_pos rfl] at h1 ⊢; exact hb.run F1 as1 ρ μ1 σ H1 Q r μ' h1 sr1 er1 (PostT.ext x1 post)
  | false =>
    rw [if_neg Bool.false_ne_true] at h1 ⊢
    cases h1
    exact post F1 as1 H1 x1 sr1
theorem sw_or (ha : STe g X W a ta) (hb : SW g X W (.BoolOp .Or (b :: rest) pos) tb) : SW g X W (.BoolOp .Or (a :: b :: rest) pos) (tOrM ta tb) := by
  refine ⟨fun F as ρ μ σ H Q r μ' h sr er post => wW (pw_or pt_wp pw_wp) ?_⟩
  refine ha.then_ h sr er (fun x e => by subst e; exact post) fun k μ1 F1 as1 H1 h1 x1 sr1 er1 => ?_
  cases k with
  | false => rw [if_neg Bool.false_ne_true] at h1 ⊢; exact hb.run F1 as1 ρ μ1 σ H1 Q r μ' h1 sr1 er1 (PostT.ext x1 post)
  | true =>
    rw [if_pos rfl] at h1 ⊢
    cases h1
    exact post F1 as1 H1 x1 sr1
theorem st_pw (h : SW g X W a ta) : STe g X W a ta := ⟨fun F as ρ μ σ H Q r μ' e sr er post => wT (pw_wp.pt) (h.run F as ρ μ σ H Q r μ' e sr er post)⟩
theorem se_if (hc : STe g X W c ta) (ha : SE g X W a ma) (hb : SE g X W b mb) : SE g X W (.IfExp c a b pos) (mIf ta ma mb) := by
  refine ⟨fun F as ρ μ σ H Q r μ' h sr er post => wE (pe_ifExp pt_wp pe_wp pe_wp) ?_⟩
  refine hc.then_ h sr er (fun x e => by subst e; exact post) fun k μ1 F1 as1 H1 h1 x1 sr1 er1 => ?_
  cases k with
  | true => rw [if_pos rfl] at h1 ⊢; exact ha.run F1 as1 ρ μ1 σ H1 Q r μ' h1 sr1 er1 (PostE.ext x1 post)
  | false => rw [if_neg Bool.false_ne_true] at h1 ⊢; exact hb.run F1 as1 ρ μ1 σ H1 Q r μ' h1 sr1 er1 (PostE.ext x1 post)
end
end Sz

set_option Elab.async false
set_option linter.all false
set_option maxRecDepth 100000
set_option maxHeartbeats 4000000
/-! Sz D: the operations on trees. -/
namespace Sz
open PySem PySem.Spec L2

/-! ### data -/
mutual
def toPy : D → Option PyData
  | .non => some .none
  | .bl b => some (.bool b)
  | .int i => some (.int i)
  | .str s => some (.str s)
  | .tup ds => match toPys ds with
    | some ps => some (.tuple ps)
    | none => none
  | .lst ds => match toPys ds with
    | some ps => some (.list ps)
    | none => none
  | _ => none
def toPys : List D → Option (List PyData)
  | [] => some []
  | d :: ds => match toPy d, toPys ds with
    | some p, some ps => some (p :: ps)
    | _, _ => none
end
section
variable {g : G} {F H : Hp}
mutual
theorem toPy_rep (e : Same F H) : ∀ {d : D} {v : V} {p : PyData}, toPy d = some p → Rep g F d v → Dp g.K H v p
  | .non, v, p, h, r => by unfold toPy at h; cases h; unfold Rep at r; subst r; exact .non
  | .bl b, v, p, h, r => by unfold toPy at h; cases h; unfold Rep at r; subst r; exact .bl b
  | .int i, v, p, h, r => by unfold toPy at h; cases h; unfold Rep at r; subst r; exact .int i
  | .str s, v, p, h, r => by unfold toPy at h; cases h; unfold Rep at r; subst r; exact .str s
  | .tup ds, v, p, h, r => by
    unfold toPy at h
    cases q : toPys ds with
    | none => rw [q] at h; cases h
    | some ps =>
      rw [q] at h
      cases h
      unfold Rep at r
      obtain ⟨a, vs, rfl, h1, h2⟩ := r
      exact .tup (seqT_mono e h1) (toPys_rep e q h2)
  | .lst ds, v, p, h, r => by
    unfold toPy at h
    cases q : toPys ds with
    | none => rw [q] at h; cases h
    | some ps =>
      rw [q] at h
      cases h
      unfold Rep at r
      obtain ⟨a, vs, rfl, h1, h2⟩ := r
      exact .lst (SqL.of (e _ _ h1)) (toPys_rep e q h2)
  | .ty _, _, _, h, _ => by unfold toPy at h; cases h
  | .obj _ _, _, _, h, _ => by unfold toPy at h; cases h
  | .fn _, _, _, h, _ => by unfold toPy at h; cases h
  | .cls _, _, _, h, _ => by unfold toPy at h; cases h
  | .scr _, _, _, h, _ => by unfold toPy at h; cases h
  | .dic _ _, _, _, h, _ => by unfold toPy at h; cases h
  | .exc _ _, _, _, h, _ => by unfold toPy at h; cases h
theorem toPys_rep (e : Same F H) : ∀ {ds : List D} {vs : List V} {ps : List PyData}, toPys ds = some ps → Reps g F ds vs → DpAll g.K H vs ps
  | [], vs, ps, h, r => by
    unfold toPys at h
    cases h
    rw [Reps.nil_iff.mp r]
    exact .nil
  | d :: ds, vs, ps, h, r => by
    unfold toPys at h
    cases q : toPy d with
    | none => rw [q] at h; simp at h
    | some p =>
      cases q2 : toPys ds with
      | none => rw [q, q2] at h; simp at h
      | some ps' =>
        rw [q, q2] at h
        simp only [Option.some.injEq] at h
        subst h
        obtain ⟨v, r', e1, e2, e3⟩ := Reps.cons_iff.mp r
        subst e1
        exact .cons (toPy_rep e q e2) (toPys_rep e q2 e3)
end
theorem toPy_vr {as : List Addr} {μ : Sto} {d : D} {v : V} {p : PyData} (sr : SR g F as μ H) (h : toPy d = some p) (r : VR g F H d v) : Dp g.K H v p := by
  rcases r with ⟨ds, a, vs, e, e1, e2, e3⟩ | r
  · subst e
    unfold toPy at h
    cases q : toPys ds with
    | none => rw [q] at h; cases h
    | some ps =>
      rw [q] at h
      cases h
      subst e1
      exact .lst (SqL.of e2) (toPys_rep sr.sub q e3)
  · exact toPy_rep sr.sub h r
end

/-! ### + - * // % ** -/
def mulOk (i j : Int) : Bool := !(decide (Builtin.Int.intBits i > shortFactorBits) && decide (Builtin.Int.intBits j > shortFactorBits) && Builtin.Int.intTooBig (Builtin.Int.intBits i + Builtin.Int.intBits j))
theorem mulOk_ok {i j : Int} (h : mulOk i j = true) : IntMulOk i j := by
  unfold mulOk at h
  unfold IntMulOk
  intro z
  rw [z] at h
  cases h
theorem mulOk_of {i j : Int} (h : IntMulOk i j) : mulOk i j = true := by
  unfold IntMulOk at h
  unfold mulOk
  rw [Bool.not_eq_true'] 
  exact Bool.eq_false_iff.mpr h
def dAdd : D → D → Option S
  | .int i, .int j => some (.val (.int (i + j)))
  | .str s, .str t => if s.length + t.length ≤ sizeLine then some (.val (.str (s ++ t))) else none
  | .lst a, .lst b => if a.length + b.length ≤ sizeLine then some (.fr (a ++ b)) else none
  | .tup a, .tup b => if a.length + b.length ≤ sizeLine then some (.val (.tup (a ++ b))) else none
  | _, _ => none
def dSub : D → D → Option S
  | .int i, .int j => some (.val (.int (i - j)))
  | _, _ => none
def dMul : D → D → Option S
  | .int i, .int j => if mulOk i j then some (.val (.int (i * j))) else none
  | .lst a, .int k => if -(2 ^ 63) ≤ k ∧ k < 2 ^ 63 ∧ a.length * k.toNat ≤ sizeLine then some (.fr (List.replicate k.toNat a).flatten) else none
  | _, _ => none
def dFdiv : D → D → Option S
  | .int i, .int j => if j ≠ 0 ∧ j.natAbs.log2 < 9000 then some (.val (.int (i.fdiv j))) else none
  | _, _ => none
def dMod : D → D → Option S
  | .int i, .int j => if j ≠ 0 then some (.val (.int (i.fmod j))) else none
  | _, _ => none
def dPow : D → D → Option S
  | .int i, .int j => if 0 ≤ j ∧ (Builtin.Int.intBits i : Int) * j ≤ 2 ^ 27 then some (.val (.int (i ^ j.toNat))) else none
  | _, _ => none
section
variable {g : G} {X : Cx}
theorem fdiv_rule : OpR X (binaryOp .FloorDiv) (rI (fun _ j => j ≠ 0 ∧ j.natAbs.log2 < 9000) fun i j => .int (i.fdiv j)) := opI fun _ _ _ _ _ _ _ hc q => PyProof.Rows.floordiv_int hc.1 q (.inl (PyProof.noPylong_of_log2 hc.2))
theorem mul_rule : OpR X (binaryOp .Mult) (rI (fun i j => IntMulOk i j) fun i j => .int (i * j)) := opI fun _ _ _ _ _ _ _ hc q => PyProof.Rows.mul_int q hc
theorem pow_rule : OpR X (binaryOp .Pow) (rI (fun i j => 0 ≤ j ∧ (Builtin.Int.intBits i : Int) * j ≤ 2 ^ 27) fun i j => .int (i ^ j.toNat)) := opI fun _ _ _ _ _ _ _ hc q => PyProof.Rows.pow_int hc.1 hc.2 q
theorem ra_lst {F H : Hp} {as : List Addr} {p : Addr} {vs : List V} {ds : List D} (h1 : H p = some (.lst vs)) (h2 : F p = none) (h3 : p ∉ as) (h4 : Reps g F ds vs) : RA g F as H (.fr ds) (.ref p) := ⟨p, vs, rfl, h1, h2, h3, h4⟩
theorem ok_add (hg : g.K = X.K) : OpOk g X (binaryOp .Add) dAdd := by
  intro x y s F as μ H v u Q e sr hx hy k
  unfold dAdd at e
  split at e
  · cases e
    cases vr_int hx
    cases vr_int hy
    exact oc op_add ⟨_, _, rfl, rfl, k F as _ H .refl sr ra_int⟩
  · split at e
    · rename_i hz
      cases e
      cases vr_str hx
      cases vr_str hy
      exact oc op_add_str ⟨_, _, rfl, rfl, hz, k F as _ H .refl sr ra_str⟩
    · cases e
  · split at e
    · rename_i hz
      cases e
      obtain ⟨a, vs, rfl, h1, r1⟩ := vr_lst sr hx
      obtain ⟨b, us, rfl, h2, r2⟩ := vr_lst sr hy
      refine oc op_cat ⟨a, b, vs, us, rfl, rfl, h1, h2, by rw [r1.length, r2.length]; exact hz, fun p hp => ?_⟩
      obtain ⟨sr', f, n⟩ := sr.loose (o := .lst (vs ++ us)) hp
      exact k F as _ _ .refl sr' (ra_lst upd_same f n (r1.append r2))
    · cases e
  · rename_i a b
    split at e
    · rename_i hz
      cases e
      obtain ⟨a', vs, rfl, h1, r1⟩ := vr_tup sr hx
      obtain ⟨b', us, rfl, h2, r2⟩ := vr_tup sr hy
      have rep_of : ∀ {d : List D} {v : V}, VR g F H (.tup d) v → Rep g F (.tup d) v := fun {d v} h => by
        rcases h with ⟨_, _, _, e', _⟩ | h
        · cases e'
        · exact h
      refine oc op_catA ⟨a', b', vs, us, rfl, rfl, hg ▸ h1, hg ▸ h2, by rw [r1.length, r2.length]; exact hz, fun z => ?_, fun _ z => ?_, fun _ _ p hp => ?_⟩
      · have ha : a = [] := by
          have := r1.length
          rw [z] at this
          exact List.eq_nil_of_length_eq_zero this.symm
        subst ha
        exact k F as _ H .refl sr (rep_of hy)
      · have hb : b = [] := by
          have := r2.length
          rw [z] at this
          exact List.eq_nil_of_length_eq_zero this.symm
        subst hb
        refine k F as _ H .refl sr ?_
        show Rep g F _ _
        rw [List.append_nil]
        exact rep_of hx
      · obtain ⟨sr', x', y'⟩ := sr.frozen (o := .tup (vs ++ us)) hp
        refine k _ as _ _ x' sr' ?_
        show Rep g _ (.tup (a ++ b)) _
        unfold Rep
        exact ⟨p, _, rfl, SqT.of y', (r1.append r2).mono x'.1⟩
    · cases e
  · cases e
theorem ok_sub : OpOk g X (binaryOp .Sub) dSub := by
  intro x y s F as μ H v u Q e sr hx hy k
  unfold dSub at e
  split at e
  · cases e
    cases vr_int hx
    cases vr_int hy
    exact oc op_sub ⟨_, _, rfl, rfl, k F as _ H .refl sr ra_int⟩
  · cases e
theorem ok_mul : OpOk g X (binaryOp .Mult) dMul := by
  intro x y s F as μ H v u Q e sr hx hy k
  unfold dMul at e
  split at e
  · split at e
    · rename_i hz
      cases e
      cases vr_int hx
      cases vr_int hy
      exact oc mul_rule ⟨_, _, rfl, rfl, mulOk_ok hz, k F as _ H .refl sr ra_int⟩
    · cases e
  · split at e
    · rename_i hz
      cases e
      obtain ⟨a, vs, rfl, h1, r1⟩ := vr_lst sr hx
      cases vr_int hy
      refine oc op_rep ⟨a, _, vs, rfl, rfl, h1, hz.1, hz.2.1, by rw [r1.length]; exact hz.2.2, fun p hp => ?_⟩
      obtain ⟨sr', f, n⟩ := sr.loose (o := .lst (List.replicate _ vs).flatten) hp
      exact k F as _ _ .refl sr' (ra_lst upd_same f n (r1.rep _))
    · cases e
  · cases e
theorem ok_fdiv : OpOk g X (binaryOp .FloorDiv) dFdiv := by
  intro x y s F as μ H v u Q e sr hx hy k
  unfold dFdiv at e
  split at e
  · split at e
    · rename_i hz
      cases e
      cases vr_int hx
      cases vr_int hy
      exact oc fdiv_rule ⟨_, _, rfl, rfl, hz, k F as _ H .refl sr ra_int⟩
    · cases e
  · cases e
theorem ok_mod : OpOk g X (binaryOp .Mod) dMod := by
  intro x y s F as μ H v u Q e sr hx hy k
  unfold dMod at e
  split at e
  · split at e
    · rename_i hz
      cases e
      cases vr_int hx
      cases vr_int hy
      exact oc op_modN ⟨_, _, rfl, rfl, hz, k F as _ H .refl sr ra_int⟩
    · cases e
  · cases e
theorem ok_pow : OpOk g X (binaryOp .Pow) dPow := by
  intro x y s F as μ H v u Q e sr hx hy k
  unfold dPow at e
  split at e
  · split at e
    · rename_i hz
      cases e
      cases vr_int hx
      cases vr_int hy
      exact oc pow_rule ⟨_, _, rfl, rfl, hz, k F as _ H .refl sr ra_int⟩
    · cases e
  · cases e
end

section
variable {g : G}
def ints? : List D → Option (List Int)
  | [] => some []
  | .int i :: ds => (ints? ds).map (i :: ·)
  | _ => none
theorem ints_reps {F : Hp} : ∀ {ds : List D} {ns : List Int} {vs : List V}, ints? ds = some ns → Reps g F ds vs → vs = ns.map V.int
  | [], ns, vs, h, r => by
    cases h
    exact Reps.nil_iff.mp r
  | d :: ds, ns, vs, h, r => by
    cases d with
    | int i =>
      obtain ⟨ns', h1, rfl⟩ := Option.map_eq_some_iff.mp (show (ints? ds).map (i :: ·) = some ns from h)
      obtain ⟨v, r', rfl, h2, h3⟩ := Reps.cons_iff.mp r
      unfold Rep at h2
      rw [h2, ints_reps h1 h3]
      rfl
    | _ => cases h
theorem ints_map : ∀ {ns : List Int}, ints? (ns.map D.int) = some ns
  | [] => rfl
  | n :: ns => by
    show (ints? (ns.map D.int)).map (n :: ·) = _
    rw [ints_map]
    rfl
/-- plain things -/
def flat? : D → Option V
  | .non => some .non
  | .bl b => some (.bl b)
  | .int i => some (.int i)
  | .str s => some (.str s)
  | _ => none
def flats? : List D → Option (List V)
  | [] => some []
  | d :: ds => match flat? d, flats? ds with
    | some v, some vs => some (v :: vs)
    | _, _ => none
theorem flat_rep {F : Hp} {d : D} {u v : V} (h : flat? d = some u) (r : Rep g F d v) : v = u ∧ flatV u = true := by
  cases d with
  | non => cases h; unfold Rep at r; exact ⟨r, rfl⟩
  | bl b => cases h; unfold Rep at r; exact ⟨r, rfl⟩
  | int i => cases h; unfold Rep at r; exact ⟨r, rfl⟩
  | str s => cases h; unfold Rep at r; exact ⟨r, rfl⟩
  | _ => cases h
theorem flats_reps {F : Hp} : ∀ {ds : List D} {us vs : List V}, flats? ds = some us → Reps g F ds vs → vs = us ∧ us.all flatV = true
  | [], us, vs, h, r => by
    cases h
    exact ⟨Reps.nil_iff.mp r, rfl⟩
  | d :: ds, us, vs, h, r => by
    obtain ⟨v, r', rfl, h2, h3⟩ := Reps.cons_iff.mp r
    unfold flats? at h
    split at h
    · rename_i a as h4 h5
      cases h
      obtain ⟨e1, e2⟩ := flat_rep h4 h2
      obtain ⟨e3, e4⟩ := flats_reps h5 h3
      exact ⟨by rw [e1, e3], by rw [List.all_cons, e2, e4]; rfl⟩
    · cases h
theorem flats_strs : ∀ {zs : List Str}, flats? (zs.map D.str) = some (zs.map V.str)
  | [] => rfl
  | z :: zs => by
    rw [List.map_cons]
    unfold flats?
    rw [flats_strs]
    rfl
theorem flats_ints : ∀ {ns : List Int}, flats? (ns.map D.int) = some (ns.map V.int)
  | [] => rfl
  | z :: zs => by
    rw [List.map_cons]
    unfold flats?
    rw [flats_ints]
    rfl
end
/-! ### comparisons -/
def dLt : D → D → Option S
  | .int i, .int j => some (.val (.bl (decide (i < j))))
  | .str s, .str t => some (.val (.bl (decide (s.cps.toList < t.cps.toList))))
  | .tup ds, .tup es => (match ints? ds, ints? es with
    | some ns, some ms => some (.val (.bl (HT.lexLt ns ms)))
    | _, _ => none)
  | _, _ => none
def dLe : D → D → Option S
  | .int i, .int j => some (.val (.bl (decide (i ≤ j))))
  | _, _ => none
def dGt : D → D → Option S
  | .int i, .int j => some (.val (.bl (decide (j < i))))
  | .tup ds, .tup es => (match toPys ds, toPys es with
    | some ps, some qs => if PySem.W.alike (.tuple ps) (.tuple qs) && SeqAt.shaped (.tuple ps) then some (.val (.bl (PySem.W.dataLt (.tuple qs) (.tuple ps)))) else none
    | _, _ => none)
  | _, _ => none
def dGe : D → D → Option S
  | .int i, .int j => some (.val (.bl (decide (j ≤ i))))
  | _, _ => none
def isNon : D → Bool
  | .non => true
  | _ => false
def dIs : D → D → Option S
  | x, .non => some (.val (.bl (isNon x)))
  | _, _ => none
def dIsNot : D → D → Option S
  | x, .non => some (.val (.bl (!isNon x)))
  | _, _ => none
/-- == of data -/
def pyEq (x y : D) : Option Bool := match toPy x, toPy y with
  | some p, some q => if SeqAt.shaped p && SeqAt.shaped q then some (PyData.eqv p q) else none
  | _, _ => none
/-- rows of which no two things are compared -/
def eqEmp : D → D → Option Bool
  | .tup ds, .tup [] => some ds.isEmpty
  | .tup [], .tup es => some es.isEmpty
  | .lst ds, .lst es => if ds.length = es.length then none else some false
  | _, _ => none
def dEq : D → D → Option S
  | .str s, .str t => some (.val (.bl (decide (s = t))))
  | x, y => match pyEq x y with
    | some b => some (.val (.bl b))
    | none => (eqEmp x y).map fun b => .val (.bl b)
def dNe : D → D → Option S
  | .str s, .str t => some (.val (.bl (!decide (s = t))))
  | x, y => match pyEq x y with
    | some b => some (.val (.bl (!b)))
    | none => (eqEmp x y).map fun b => .val (.bl (!b))
/-- in: a text in a text, a thing in a list of data -/
def pyIn : D → D → Option Bool
  | .str i, .str j => some (!(Builtin.Str.occurrences j i 0 j.length 1).isEmpty)
  | x, .lst ds => match toPy x, toPys ds with
    | some p, some ps => if SeqAt.shaped p && SeqAt.shaped (.list ps) then some (ps.any fun z => PyData.eqv z p) else none
    | _, _ => none
  | x, .tup ds => match flat? x, flats? ds with
    | some v, some vs => some (inV v vs)
    | _, _ => none
  | _, _ => none
def dIn (x y : D) : Option S := (pyIn x y).map fun b => .val (.bl b)
def dNotIn (x y : D) : Option S := (pyIn x y).map fun b => .val (.bl (!b))
section
variable {g : G} {X : Cx}
theorem isNon_rep {F : Hp} {d : D} {v : V} (h : Rep g F d v) : decide (v = .non) = isNon d := by
  cases d with
  | non => unfold Rep at h; subst h; rfl
  | tup ds => unfold Rep at h; obtain ⟨a, vs, rfl, _⟩ := h; rfl
  | lst ds => unfold Rep at h; obtain ⟨a, vs, rfl, _⟩ := h; rfl
  | obj c fs => unfold Rep at h; obtain ⟨a, dx, vs, rfl, _⟩ := h; rfl
  | scr ns => unfold Rep at h; obtain ⟨a, rfl, _⟩ := h; rfl
  | dic ks ds => unfold Rep at h; obtain ⟨a, vs, rfl, _⟩ := h; rfl
  | exc c fs => unfold Rep at h; obtain ⟨a, oe, dx, vs, rfl, _⟩ := h; rfl
  | _ => unfold Rep at h; subst h; rfl
theorem isNon_vr {F H : Hp} {d : D} {v : V} (h : VR g F H d v) : decide (v = .non) = isNon d := by
  rcases h with ⟨ds, a, vs, rfl, rfl, _⟩ | h
  · rfl
  · exact isNon_rep h
theorem ok_lt (hg : g.K = X.K) (hu : X.A.units + 64 < cLine) : OpOk g X (compareOp .Lt) dLt := by
  intro x y s F as μ H v u Q e sr hx hy k
  unfold dLt at e
  split at e
  · cases e
    cases vr_int hx
    cases vr_int hy
    exact oc op_lt ⟨_, _, rfl, rfl, k F as _ H .refl sr ra_bl⟩
  · cases e
    cases vr_str hx
    cases vr_str hy
    exact oc op_lt_str ⟨_, _, rfl, rfl, k F as _ H .refl sr ra_bl⟩
  · split at e
    · rename_i ns ms h1 h2
      cases e
      obtain ⟨a, vs, rfl, q1, r1⟩ := vr_tup sr hx
      obtain ⟨b, us, rfl, q2, r2⟩ := vr_tup sr hy
      cases ints_reps h1 r1
      cases ints_reps h2 r2
      exact oc (op_ltT (by omega)) ⟨a, b, ns, ms, rfl, rfl, hg ▸ q1, hg ▸ q2, k F as _ H .refl sr ra_bl⟩
    · cases e
  · cases e
theorem ok_le : OpOk g X (compareOp .LtE) dLe := by
  intro x y s F as μ H v u Q e sr hx hy k
  unfold dLe at e
  split at e
  · cases e
    cases vr_int hx
    cases vr_int hy
    exact oc op_le ⟨_, _, rfl, rfl, k F as _ H .refl sr ra_bl⟩
  · cases e
theorem ok_gt (hg : g.K = X.K) (hu : X.A.units + 64 < cLine) : OpOk g X (compareOp .Gt) dGt := by
  intro x y s F as μ H v u Q e sr hx hy k
  unfold dGt at e
  split at e
  · cases e
    cases vr_int hx
    cases vr_int hy
    exact oc op_gt ⟨_, _, rfl, rfl, k F as _ H .refl sr ra_bl⟩
  · rename_i ds es
    split at e
    · rename_i ps qs h1 h2
      split at e
      · rename_i hz
        cases e
        rw [Bool.and_eq_true] at hz
        have t1 : toPy (.tup ds) = some (.tuple ps) := by unfold toPy; rw [h1]
        have t2 : toPy (.tup es) = some (.tuple qs) := by unfold toPy; rw [h2]
        refine oc (r := fun x y H Q => ∃ d d', Dp X.K H x d ∧ Dp X.K H y d' ∧ PySem.W.alike d d' = true ∧ d ≠ PyData.none ∧ SeqAt.shaped d = true ∧ Q (.bl (PySem.W.dataLt d' d)) H) (fun pins s σ H x y v u Q I rx ry h => ?_) ⟨.tuple ps, .tuple qs, hg ▸ toPy_vr sr t1 hx, hg ▸ toPy_vr sr t2 hy, hz.1, (fun z => by cases z), hz.2, k F as _ H .refl sr ra_bl⟩
        obtain ⟨d, d', hd, he, al, nn, sd, q⟩ := h
        obtain ⟨as, r1⟩ := Dp.reads I d x v hd rx
        obtain ⟨bs, r2⟩ := Dp.reads I d' y u he ry
        exact PySem.W.gt_data r1 r2 al nn (SeqAt.room_of_shaped sd hu) ⟨.bl _, H, I, rfl, q⟩
      · cases e
    · cases e
  · cases e
theorem ok_ge : OpOk g X (compareOp .GtE) dGe := by
  intro x y s F as μ H v u Q e sr hx hy k
  unfold dGe at e
  split at e
  · cases e
    cases vr_int hx
    cases vr_int hy
    exact oc op_ge ⟨_, _, rfl, rfl, k F as _ H .refl sr ra_bl⟩
  · cases e
theorem ok_is : OpOk g X (compareOp .Is) dIs := by
  intro x y s F as μ H v u Q e sr hx hy k
  unfold dIs at e
  split at e
  · cases e
    cases vr_non hy
    refine oc op_isN ⟨rfl, ?_⟩
    rw [isNon_vr hx]
    exact k F as _ H .refl sr ra_bl
  · cases e
theorem ok_isnot : OpOk g X (compareOp .IsNot) dIsNot := by
  intro x y s F as μ H v u Q e sr hx hy k
  unfold dIsNot at e
  split at e
  · cases e
    cases vr_non hy
    refine oc op_notN ⟨rfl, ?_⟩
    rw [isNon_vr hx]
    exact k F as _ H .refl sr ra_bl
  · cases e
theorem pyEq_some {x y : D} {b : Bool} (h : pyEq x y = some b) : ∃ p q, toPy x = some p ∧ toPy y = some q ∧ SeqAt.shaped p = true ∧ SeqAt.shaped q = true ∧ PyData.eqv p q = b := by
  unfold pyEq at h
  split at h
  · rename_i p q h1 h2
    split at h
    · rename_i hz
      cases h
      rw [Bool.and_eq_true] at hz
      exact ⟨p, q, h1, h2, hz.1, hz.2, rfl⟩
    · cases h
  · cases h
theorem op_emp {X : Cx} {neg : Bool} (hu : X.A.units < cLine) : OpR X (compareOp (if neg = true then .NotEq else .Eq)) (fun x y H Q => ∃ a b, x = .ref a ∧ y = .ref b ∧ ((∃ xs ys, SqT X.K H a xs ∧ SqT X.K H b ys ∧ (xs = [] ∨ ys = []) ∧ Q (.bl (neg != decide (xs.length = ys.length))) H) ∨ ∃ xs ys, SqL X.K H a xs ∧ SqL X.K H b ys ∧ xs.length ≠ ys.length ∧ Q (.bl neg) H)) := by
  intro pins s σ H x y v u Q I rx ry h
  obtain ⟨a, b, rfl, rfl, h⟩ := h
  cases rx
  cases ry
  rcases h with ⟨xs, ys, qx, qy, hz, q⟩ | ⟨xs, ys, qx, qy, hz, q⟩
  · obtain ⟨its, r1, p1, _⟩ := I.tuple qx
    obtain ⟨jts, r2, p2, _⟩ := I.tuple qy
    have l1 := r1.length
    have l2 := r2.length
    have m0 : min its.toArray.size jts.toArray.size = 0 := by
      rw [List.size_toArray, List.size_toArray, ← l1, ← l2]
      rcases hz with rfl | rfl
      · simp
      · simp
    have em : ∀ j, j < its.toArray.size → j < jts.toArray.size → False := fun j j1 j2 => by omega
    have sz : (its.toArray.size == jts.toArray.size) = decide (xs.length = ys.length) := by
      rw [List.size_toArray, List.size_toArray, ← l1, ← l2]
      rfl
    cases neg
    · refine SeqAt.RcAt.tuples (e := fun _ => true) p1 p2 hu (fun j j1 j2 => (em j j1 j2).elim) X.prog X.w X.xe _ ?_
      rw [m0, sz]
      exact ⟨.bl _, H, I, rfl, by simpa using q⟩
    · refine SeqAt.RcNeAt.tuples (e := fun _ => true) p1 p2 hu (fun j j1 j2 => (em j j1 j2).elim) X.prog X.w X.xe _ ?_
      rw [m0, sz]
      exact ⟨.bl _, H, I, rfl, by simpa using q⟩
  · obtain ⟨its, r1, p1, _⟩ := I.list qx
    obtain ⟨jts, r2, p2, _⟩ := I.list qy
    have l1 := r1.length
    have l2 := r2.length
    have sz : (its.toArray.size != jts.toArray.size) = true := by
      rw [List.size_toArray, List.size_toArray, ← l1, ← l2]
      simpa using hz
    cases neg
    · exact SeqAt.RcAt.lists_lengths p1.isList p2.isList sz hu X.prog X.w X.xe _ ⟨.bl _, H, I, rfl, q⟩
    · exact SeqAt.RcNeAt.lists_lengths p1.isList p2.isList sz hu X.prog X.w X.xe _ ⟨.bl _, H, I, rfl, q⟩
theorem emp_run {neg : Bool} {x y : D} {b : Bool} {F : Hp} {as : List Addr} {μ : Sto} {H : Hp} {v u : V} {Q : VK} (hg : g.K = X.K) (hu : X.A.units < cLine) (e : eqEmp x y = some b) (sr : SR g F as μ H) (hx : VR g F H x v) (hy : VR g F H y u) (q : Q (.bl (neg != b)) H) : rcan X (compareOp (if neg = true then .NotEq else .Eq)) v u H Q := by
  unfold eqEmp at e
  split at e
  · cases e
    obtain ⟨a, vs, rfl, q1, r1⟩ := vr_tup sr hx
    obtain ⟨c, us, rfl, q2, r2⟩ := vr_tup sr hy
    cases Reps.nil_iff.mp r2
    refine oc (op_emp hu) ⟨a, c, rfl, rfl, .inl ⟨vs, [], hg ▸ q1, hg ▸ q2, .inr rfl, ?_⟩⟩
    rename_i ds
    have : ds.isEmpty = decide (vs.length = ([] : List V).length) := by
      rw [r1.length]
      cases ds <;> simp
    rw [← this]
    exact q
  · cases e
    obtain ⟨a, vs, rfl, q1, r1⟩ := vr_tup sr hx
    obtain ⟨c, us, rfl, q2, r2⟩ := vr_tup sr hy
    cases Reps.nil_iff.mp r1
    refine oc (op_emp hu) ⟨a, c, rfl, rfl, .inl ⟨[], us, hg ▸ q1, hg ▸ q2, .inl rfl, ?_⟩⟩
    rename_i es _
    have : es.isEmpty = decide (([] : List V).length = us.length) := by
      rw [r2.length]
      cases es <;> simp
    rw [← this]
    exact q
  · split at e
    · cases e
    · rename_i hz
      cases e
      obtain ⟨a, vs, rfl, q1, r1⟩ := vr_lst sr hx
      obtain ⟨c, us, rfl, q2, r2⟩ := vr_lst sr hy
      refine oc (op_emp hu) ⟨a, c, rfl, rfl, .inr ⟨vs, us, hg ▸ SqL.of q1, hg ▸ SqL.of q2, by rw [r1.length, r2.length]; exact hz, ?_⟩⟩
      simpa using q
  · cases e
theorem ok_eq (hg : g.K = X.K) (hu : X.A.units + 64 < cLine) : OpOk g X (compareOp .Eq) dEq := by
  intro x y s F as μ H v u Q e sr hx hy k
  unfold dEq at e
  split at e
  · rename_i s' t'
    cases e
    cases vr_str hx
    cases vr_str hy
    refine oc op_eq ⟨rfl, ?_⟩
    have q : decide (V.str s' = V.str t') = decide (s' = t') := by
      rw [decide_eq_decide]
      exact ⟨fun z => by injection z, fun z => by rw [z]⟩
    rw [q]
    exact k F as _ H .refl sr ra_bl
  split at e
  · rename_i b h
    cases e
    obtain ⟨p, q, h1, h2, h3, h4, rfl⟩ := pyEq_some h
    exact oc (op_eqD hu) ⟨p, q, hg ▸ toPy_vr sr h1 hx, hg ▸ toPy_vr sr h2 hy, h3, h4, k F as _ H .refl sr ra_bl⟩
  · obtain ⟨b, h, rfl⟩ := Option.map_eq_some_iff.mp e
    refine emp_run (neg := false) hg (by omega) h sr hx hy ?_
    have : (false != b) = b := by cases b <;> rfl
    rw [this]
    exact k F as _ H .refl sr ra_bl
theorem ok_ne (hg : g.K = X.K) (hu : X.A.units + 64 < cLine) : OpOk g X (compareOp .NotEq) dNe := by
  intro x y s F as μ H v u Q e sr hx hy k
  unfold dNe at e
  split at e
  · rename_i s' t'
    cases e
    cases vr_str hx
    cases vr_str hy
    refine oc op_ne ⟨rfl, ?_⟩
    have q : decide (V.str s' = V.str t') = decide (s' = t') := by
      rw [decide_eq_decide]
      exact ⟨fun z => by injection z, fun z => by rw [z]⟩
    rw [q]
    exact k F as _ H .refl sr ra_bl
  split at e
  · rename_i b h
    cases e
    obtain ⟨p, q, h1, h2, h3, h4, rfl⟩ := pyEq_some h
    exact oc (op_neD hu) ⟨p, q, hg ▸ toPy_vr sr h1 hx, hg ▸ toPy_vr sr h2 hy, h3, h4, k F as _ H .refl sr ra_bl⟩
  · obtain ⟨b, h, rfl⟩ := Option.map_eq_some_iff.mp e
    refine emp_run (neg := true) hg (by omega) h sr hx hy ?_
    have : (true != b) = !b := by cases b <;> rfl
    rw [this]
    exact k F as _ H .refl sr ra_bl
theorem flat_vr {F H : Hp} {d : D} {u v : V} (h : flat? d = some u) (r : VR g F H d v) : v = u ∧ flatV u = true := by
  rcases r with ⟨ds, a, vs, rfl, _⟩ | r
  · cases h
  · exact flat_rep h r
theorem ok_in (hg : g.K = X.K) (hu : X.A.units + 65 < cLine) : OpOk g X (compareOp .In) dIn := by
  intro x y s F as μ H v u Q e sr hx hy k
  obtain ⟨b, h, rfl⟩ := Option.map_eq_some_iff.mp e
  unfold pyIn at h
  split at h
  · cases h
    cases vr_str hx
    cases vr_str hy
    exact oc op_in_str ⟨_, _, rfl, rfl, k F as _ H .refl sr ra_bl⟩
  · rename_i ds
    split at h
    · rename_i p ps h1 h2
      split at h
      · rename_i hz
        cases h
        rw [Bool.and_eq_true] at hz
        have h3 : toPy (.lst ds) = some (.list ps) := by unfold toPy; rw [h2]
        exact oc (op_inD hu) ⟨p, ps, hg ▸ toPy_vr sr h1 hx, hg ▸ toPy_vr sr h3 hy, hz.1, hz.2, k F as _ H .refl sr ra_bl⟩
      · cases h
    · cases h
  · rename_i ds
    split at h
    · rename_i p ps h1 h2
      cases h
      obtain ⟨a, vs, rfl, q1, r1⟩ := vr_tup sr hy
      obtain ⟨e1, e2⟩ := flats_reps h2 r1
      obtain ⟨e3, e4⟩ := flat_vr h1 hx
      subst e1 e3
      exact oc op_in_seq ⟨a, vs, rfl, .inr (hg ▸ q1), e4, e2, k F as _ H .refl sr ra_bl⟩
    · cases h
  · cases h
theorem ok_notin (hg : g.K = X.K) (hu : X.A.units + 65 < cLine) : OpOk g X (compareOp .NotIn) dNotIn := by
  intro x y s F as μ H v u Q e sr hx hy k
  obtain ⟨b, h, rfl⟩ := Option.map_eq_some_iff.mp e
  unfold pyIn at h
  split at h
  · cases h
    cases vr_str hx
    cases vr_str hy
    exact oc L2.op_notin_str ⟨_, _, rfl, rfl, k F as _ H .refl sr ra_bl⟩
  · rename_i ds
    split at h
    · rename_i p ps h1 h2
      split at h
      · rename_i hz
        cases h
        rw [Bool.and_eq_true] at hz
        have h3 : toPy (.lst ds) = some (.list ps) := by unfold toPy; rw [h2]
        exact oc (op_notInD hu) ⟨p, ps, hg ▸ toPy_vr sr h1 hx, hg ▸ toPy_vr sr h3 hy, hz.1, hz.2, k F as _ H .refl sr ra_bl⟩
      · cases h
    · cases h
  · rename_i ds
    split at h
    · rename_i p ps h1 h2
      cases h
      obtain ⟨a, vs, rfl, q1, r1⟩ := vr_tup sr hy
      obtain ⟨e1, e2⟩ := flats_reps h2 r1
      obtain ⟨e3, e4⟩ := flat_vr h1 hx
      subst e1 e3
      exact oc op_notIn_seq ⟨a, vs, rfl, .inr (hg ▸ q1), e4, e2, k F as _ H .refl sr ra_bl⟩
    · cases h
  · cases h
end
end Sz

set_option Elab.async false
set_option linter.all false
set_option maxRecDepth 100000
set_option maxHeartbeats 4000000
/-! Sz E: argument lists, displays, built-in calls, isinstance, places, attributes. -/
namespace Sz
open PySem PySem.Spec L2

def notStar : Expr → Bool
  | .Starred _ _ => false
  | _ => true
theorem starEach_cons {e : Expr} {es : List Expr} {env : PySem.Env} (h : notStar e = true) : starEach (e :: es) env = (false, eval e env) :: starEach es env := by
  cases e <;> first | rfl | (exact absurd (show false = true from h) Bool.false_ne_true)
theorem starEach_plain : ∀ {es : List Expr} {env : PySem.Env} {pos : Pos}, es.all notStar = true → (backTo pos (starEach es env)).any (·.1) = false
  | [], _, _, _ => rfl
  | e :: es, env, pos, h => by
    rw [List.all_cons, Bool.and_eq_true] at h
    rw [starEach_cons h.1]
    show (false || (backTo pos (starEach es env)).any (·.1)) = false
    rw [starEach_plain h.2]; rfl

/-! ### argument lists -/
def mArgs : List ME → MA
  | [] => fun _ μ => some (.ok [], μ)
  | m :: ms => fun ρ μ => andThen (m ρ μ) fun s μ1 => andThen (mArgs ms ρ μ1) fun ss μ2 => some (.ok (rt s :: ss), μ2)
section
variable {g : G} {X : Cx} {W : WX} {e : Expr} {es : List Expr} {m : ME} {ms : List ME} {pos : Pos}
theorem sa_nil : SA g X W [] (mArgs []) := by
  refine ⟨fun F as ρ μ σ H Q r μ' h sr er post => wA pa_nil ?_⟩
  cases h
  exact post F as [] H .refl sr .nil
theorem sa_cons (hn : notStar e = true) (h1 : SE g X W e m) (h2 : SA g X W es (mArgs ms)) : SA g X W (e :: es) (mArgs (m :: ms)) := by
  refine ⟨fun F as ρ μ σ H Q r μ' h sr er post => wA (pa_cons pe_wp pa_wp (starEach_cons hn)) ?_⟩
  refine h1.then_ (show andThen _ _ = some (r, μ') from h) sr er (fun x e => by subst e; exact post) fun s1 μ1 F1 as1 v1 H1 h3 x1 sr1 er1 ra1 => ?_
  obtain ⟨F1', x1', sr1', rs1⟩ := root_ok sr1 ra1
  refine h2.then_ h3 sr1' (er1.mono x1') (fun x e => by subst e; exact PErr.ext (x1.trans x1') post) fun ss μ2 F2 as2 vs H2 h4 x2 sr2 er2 rs2 => ?_
  cases h4
  exact post F2 as2 _ H2 ((x1.trans x1').trans x2) sr2 (.cons (rs1.mono x2) rs2)
end

/-! ### displays -/
def finL (ss : List S) (μ : Sto) : Option R := match toDs μ ss with
  | some (ds, μ2) => if ds.length ≤ sizeLine then some (.ok (.fr ds), μ2) else none
  | none => none
def finT (ss : List S) (μ : Sto) : Option R := match toDs μ ss with
  | some (ds, μ2) => if ds.length ≤ sizeLine then some (.ok (.val (.tup ds)), μ2) else none
  | none => none
def mList (ms : List ME) : ME := fun ρ μ => andThen (mArgs ms ρ μ) finL
def mTup (ms : List ME) : ME := fun ρ μ => andThen (mArgs ms ρ μ) finT
section
variable {g : G} {X : Cx} {W : WX} {e : Expr} {es : List Expr} {m : ME} {ms : List ME} {pos : Pos}
theorem se_lst (ha : SA g X W es (mArgs ms)) : SE g X W (.List es pos) (mList ms) := by
  refine ⟨fun F as ρ μ σ H Q r μ' h sr er post => wE (pe_lst pa_wp) ?_⟩
  refine ha.then_ (show andThen _ _ = some (r, μ') from h) sr er (fun x e => by subst e; exact post) fun ss μ1 F1 as1 vs H1 h1 x1 sr1 er1 rs1 => ?_
  unfold finL at h1
  split at h1
  · rename_i ds μ2 hd
    split at h1
    · rename_i hz
      cases h1
      obtain ⟨F2, x2, sr2, r2⟩ := toDs_rs sr1 rs1 hd
      refine ⟨by rw [r2.length]; exact hz, fun p hp => ?_⟩
      obtain ⟨sr3, f, n⟩ := sr2.loose (o := .lst vs) hp
      exact post F2 as1 _ _ (x1.trans x2) sr3 (ra_lst upd_same f n r2)
    · cases h1
  · cases h1
theorem se_tup {k : Nat} (ha : SA g X W es (mArgs ms)) : SE g X W (.Tuple es k pos) (mTup ms) := by
  refine ⟨fun F as ρ μ σ H Q r μ' h sr er post => wE (pe_tup pa_wp) ?_⟩
  refine ha.then_ (show andThen _ _ = some (r, μ') from h) sr er (fun x e => by subst e; exact post) fun ss μ1 F1 as1 vs H1 h1 x1 sr1 er1 rs1 => ?_
  unfold finT at h1
  split at h1
  · rename_i ds μ2 hd
    split at h1
    · rename_i hz
      cases h1
      obtain ⟨F2, x2, sr2, r2⟩ := toDs_rs sr1 rs1 hd
      refine ⟨by rw [r2.length]; exact hz, fun p hp => ?_⟩
      obtain ⟨sr3, x3, y3⟩ := sr2.frozen (o := .tup vs) hp
      refine post _ as1 _ _ ((x1.trans x2).trans x3) sr3 ?_
      show Rep g _ (.tup ds) _
      unfold Rep
      exact ⟨p, vs, rfl, SqT.of y3, r2.mono x3.1⟩
    · cases h1
  · cases h1
end

/-! ### calls of built-ins -/
def CallOk (g : G) (X : Cx) (f : Value) (op : List D → Option S) : Prop :=
  ∀ (xs : List D) (s : S) (F : Hp) (as : List Addr) (μ : Sto) (H : Hp) (vs : List V) (Q : VK), op xs = some s → SR g F as μ H → VRs g F H xs vs →
    (∀ F' as' w H', Ext F as F' as' → SR g F' as' μ H' → RA g F' as' H' s w → Q w H') → ∀ (pins : List (Addr × Obj)) (st : Shared) (σ : L2.St) (us : List Value), Inv X pins σ H st → Vals vs us → wpAny (model X.prog X.w) X.A (call f us) (EP X pins σ Q) X.xe st
def finB (op : List D → Option S) (ss : List S) (μ : Sto) : Option R := match vws μ ss with
  | some xs => (match op xs with
    | some s => some (.ok s, μ)
    | none => none)
  | none => none
def mCallB (op : List D → Option S) (ms : List ME) : ME := fun ρ μ => andThen (mArgs ms ρ μ) (finB op)
theorem finB_some {op : List D → Option S} {ss : List S} {μ μ' : Sto} {r : Except Ex S} (h : finB op ss μ = some (r, μ')) : ∃ xs s, vws μ ss = some xs ∧ op xs = some s ∧ r = .ok s ∧ μ' = μ := by
  unfold finB at h
  split at h
  · rename_i xs h1
    split at h
    · rename_i s h2
      cases h
      exact ⟨xs, s, h1, h2, rfl, rfl⟩
    · cases h
  · cases h
section
variable {g : G} {X : Cx} {W : WX} {e : Expr} {es : List Expr} {ms : List ME} {pos p : Pos} {x : Str} {op : List D → Option S} {id T : String}
abbrev ccan (X : Cx) (f : Value) : List V → Hp → VK → Prop := fun vs H Q => ∀ (pins : List (Addr × Obj)) (st : Shared) (σ : L2.St) (us : List Value), Inv X pins σ H st → Vals vs us → wpAny (model X.prog X.w) X.A (call f us) (EP X pins σ Q) X.xe st
theorem call_can {f : Value} : CallR X f (ccan X f) := fun pins s σ H xs us Q I r h => h pins s σ us I r
theorem cc {f : Value} {r : List V → Hp → VK → Prop} (h : CallR X f r) {vs : List V} {H : Hp} {Q : VK} (q : r vs H Q) : ccan X f vs H Q := fun pins s σ us I rr => h pins s σ H vs us Q I rr q
theorem callB_ok {f : Value} (ho : CallOk g X f op) (ha : SA g X W es (mArgs ms)) {F : Hp} {as : List Addr} {ρ : En} {μ : Sto} {σ : L2.St} {H : Hp} {Q : VK} {r : Except Ex S} {μ' : Sto}
    (h : mCallB op ms ρ μ = some (r, μ')) (sr : SR g F as μ H) (er : ER g F as ρ σ) (post : PostE g W F as σ Q r μ') : tCB (ccan X f) (wpA X es) σ H Q := by
  refine ha.then_ (show andThen _ _ = some (r, μ') from h) sr er (fun x e => by subst e; exact post) fun ss μ1 F1 as1 vs H1 h1 x1 sr1 er1 rs1 => ?_
  obtain ⟨xs, s, e1, e2, e3, e4⟩ := finB_some h1
  subst e3 e4
  exact ho xs s F1 as1 μ' H1 vs Q e2 sr1 (views_rs sr1 rs1 e1) fun F' as' w H' e' r' q => post F' as' w H' (x1.trans e') r' q
theorem se_callB (ho : CallOk g X (.builtin id) op) (hg : Gl X x) (hm : X.mg x = none) (hv : bootBuiltins x = some (.builtin id)) (hn : x ≠ "__name__") (hdb : (x == ("__debug__" : Str)) = false) (hst : (e :: es).all notStar = true)
    (ha : SA g X W (e :: es) (mArgs ms)) : SE g X W (.Call (.Name x p) (e :: es) [] pos) (mCallB op ms) := by
  rw [List.all_cons, Bool.and_eq_true] at hst
  exact ⟨fun F as ρ μ σ H Q r μ' h sr er post => wE (pe_callB call_can hg hm hv pa_wp hn hdb (starEach_cons hst.1) (starEach_plain hst.2)) (callB_ok ho ha h sr er post)⟩
theorem se_callTy (ho : CallOk g X (.type T) op) (hg : Gl X x) (hm : X.mg x = none) (hv : bootBuiltins x = some (.type T)) (hn : x ≠ "__name__") (hdb : (x == ("__debug__" : Str)) = false) (hst : (e :: es).all notStar = true)
    (ha : SA g X W (e :: es) (mArgs ms)) : SE g X W (.Call (.Name x p) (e :: es) [] pos) (mCallB op ms) := by
  rw [List.all_cons, Bool.and_eq_true] at hst
  exact ⟨fun F as ρ μ σ H Q r μ' h sr er post => wE (pe_callTy call_can hg hm hv pa_wp hn hdb (starEach_cons hst.1) (starEach_plain hst.2)) (callB_ok ho ha h sr er post)⟩
theorem vrs1 {F H : Hp} {d : D} {vs : List V} (h : VRs g F H [d] vs) : ∃ v, vs = [v] ∧ VR g F H d v := by
  cases h with
  | cons h t => cases t; exact ⟨_, rfl, h⟩
theorem vrs2 {F H : Hp} {d d' : D} {vs : List V} (h : VRs g F H [d, d'] vs) : ∃ v u, vs = [v, u] ∧ VR g F H d v ∧ VR g F H d' u := by
  cases h with
  | cons h t => cases t with
    | cons h' t => cases t; exact ⟨_, _, rfl, h, h'⟩
end
def bLen : List D → Option S
  | [.str x] => if x.length ≤ sizeLine then some (.val (.int x.length)) else none
  | [.lst ds] => some (.val (.int ds.length))
  | [.tup ds] => some (.val (.int ds.length))
  | [.scr ns] => some (.val (.int ns.length))
  | _ => none
def bAbs : List D → Option S
  | [.int i] => some (.val (.int (if i < 0 then -i else i)))
  | _ => none
def bMin : List D → Option S
  | [.int i, .int j] => some (.val (.int (if j < i then j else i)))
  | _ => none
def bMax : List D → Option S
  | [.int i, .int j] => some (.val (.int (if j > i then j else i)))
  | _ => none
def bInt : List D → Option S
  | [.int i] => some (.val (.int i))
  | [.bl b] => some (.val (.int (if b then 1 else 0)))
  | [.str x] => match PySem.intText? x with
    | some n => if x.length ≤ 640 then some (.val (.int n)) else none
    | none => none
  | _ => none
def bBool : List D → Option S
  | [.int i] => some (.val (.bl (i != 0)))
  | [.bl b] => some (.val (.bl b))
  | _ => none
def bStr : List D → Option S
  | [.int i] => if i.natAbs.log2 < 1920 then some (.val (.str (toString i))) else none
  | _ => none
def bList : List D → Option S
  | [.lst ds] => some (.fr ds)
  | [.tup ds] => some (.fr ds)
  | [.scr ns] => some (.fr (ns.map .int))
  | _ => none
def bTuple : List D → Option S
  | [.lst ds] => some (.val (.tup ds))
  | [.tup ds] => some (.val (.tup ds))
  | _ => none
def bls? : List D → Option (List Bool)
  | [] => some []
  | .bl b :: ds => (bls? ds).map (b :: ·)
  | _ => none
def bAll : List D → Option S
  | [.lst ds] => (bls? ds).map fun bs => .val (.bl (bs.all id))
  | _ => none
def bAny : List D → Option S
  | [.lst ds] => (bls? ds).map fun bs => .val (.bl (bs.any id))
  | _ => none
section
variable {g : G} {X : Cx}
theorem bls_rep {F : Hp} : ∀ {ds : List D} {bs : List Bool} {vs : List V}, bls? ds = some bs → Reps g F ds vs → vs = bs.map V.bl
  | [], bs, vs, h, r => by
    unfold bls? at h
    cases h
    exact Reps.nil_iff.mp r
  | d :: ds, bs, vs, h, r => by
    cases d with
    | bl b =>
      unfold bls? at h
      obtain ⟨bs', h1, rfl⟩ := Option.map_eq_some_iff.mp h
      obtain ⟨v, r', rfl, h2, h3⟩ := Reps.cons_iff.mp r
      unfold Rep at h2
      rw [h2, bls_rep h1 h3]
      rfl
    | _ => unfold bls? at h; cases h
theorem ints_rep {F : Hp} : ∀ {ns : List Int}, Reps g F (ns.map D.int) (ns.map V.int)
  | [] => Reps.nil
  | n :: ns => Reps.cons (by unfold Rep; rfl) ints_rep
theorem co_len (hg : g.K = X.K) : CallOk g X (.builtin "len") bLen := by
  intro xs s F as μ H vs Q e sr hx k
  unfold bLen at e
  split at e
  · obtain ⟨v, rfl, h⟩ := vrs1 hx
    cases vr_str h
    split at e
    · rename_i hz
      cases e
      exact cc call_len ⟨_, _, rfl, ⟨hz, rfl⟩, k F as _ H .refl sr ra_int⟩
    · cases e
  · cases e
    obtain ⟨v, rfl, h⟩ := vrs1 hx
    obtain ⟨a, us, rfl, h1, h2⟩ := vr_lst sr h
    refine cc call_len ⟨_, us.length, rfl, .inl ⟨us, SqL.of h1, rfl⟩, ?_⟩
    rw [h2.length]
    exact k F as _ H .refl sr ra_int
  · cases e
    obtain ⟨v, rfl, h⟩ := vrs1 hx
    obtain ⟨a, us, rfl, h1, h2⟩ := vr_tup sr h
    refine cc call_len ⟨_, us.length, rfl, .inr ⟨us, hg ▸ h1, rfl⟩, ?_⟩
    rw [h2.length]
    exact k F as _ H .refl sr ra_int
  · cases e
    obtain ⟨v, rfl, h⟩ := vrs1 hx
    obtain ⟨a, rfl, h1⟩ := vr_scr sr h
    refine cc call_len ⟨_, _, rfl, .inl ⟨_, hg ▸ h1, rfl⟩, ?_⟩
    rw [List.length_map]
    exact k F as _ H .refl sr ra_int
  · cases e
theorem co_abs : CallOk g X (.builtin "abs") bAbs := by
  intro xs s F as μ H vs Q e sr hx k
  unfold bAbs at e
  split at e
  · cases e
    obtain ⟨v, rfl, h⟩ := vrs1 hx
    cases vr_int h
    exact cc call_abs ⟨_, rfl, k F as _ H .refl sr ra_int⟩
  · cases e
theorem co_min (hc : X.calm = true) : CallOk g X (.builtin "min") bMin := by
  intro xs s F as μ H vs Q e sr hx k
  unfold bMin at e
  split at e
  · cases e
    obtain ⟨v, u, rfl, h, h'⟩ := vrs2 hx
    cases vr_int h
    cases vr_int h'
    exact cc (call_min2 hc) ⟨_, _, rfl, k F as _ H .refl sr ra_int⟩
  · cases e
theorem co_max (hc : X.calm = true) : CallOk g X (.builtin "max") bMax := by
  intro xs s F as μ H vs Q e sr hx k
  unfold bMax at e
  split at e
  · cases e
    obtain ⟨v, u, rfl, h, h'⟩ := vrs2 hx
    cases vr_int h
    cases vr_int h'
    exact cc (call_max2 hc) ⟨_, _, rfl, k F as _ H .refl sr ra_int⟩
  · cases e
theorem co_int : CallOk g X (.type "int") bInt := by
  intro xs s F as μ H vs Q e sr hx k
  unfold bInt at e
  split at e
  · cases e
    obtain ⟨v, rfl, h⟩ := vrs1 hx
    cases vr_int h
    exact cc call_int1 (.inl ⟨_, rfl, k F as _ H .refl sr ra_int⟩)
  · cases e
    obtain ⟨v, rfl, h⟩ := vrs1 hx
    cases vr_bl h
    exact cc call_int1 (.inr ⟨_, rfl, k F as _ H .refl sr ra_int⟩)
  · obtain ⟨v, rfl, h⟩ := vrs1 hx
    cases vr_str h
    split at e
    · rename_i n hn
      split at e
      · rename_i hz
        cases e
        exact cc call_int_str ⟨_, _, rfl, hn, hz, k F as _ H .refl sr ra_int⟩
      · cases e
    · cases e
  · cases e
theorem co_bool : CallOk g X (.type "bool") bBool := by
  intro xs s F as μ H vs Q e sr hx k
  unfold bBool at e
  split at e
  · cases e
    obtain ⟨v, rfl, h⟩ := vrs1 hx
    cases vr_int h
    exact cc call_bool1 (.inl ⟨_, rfl, k F as _ H .refl sr ra_bl⟩)
  · cases e
    obtain ⟨v, rfl, h⟩ := vrs1 hx
    cases vr_bl h
    exact cc call_bool1 (.inr ⟨_, rfl, k F as _ H .refl sr ra_bl⟩)
  · cases e
theorem co_str : CallOk g X (.type "str") bStr := by
  intro xs s F as μ H vs Q e sr hx k
  unfold bStr at e
  split at e
  · split at e
    · rename_i hz
      cases e
      obtain ⟨v, rfl, h⟩ := vrs1 hx
      cases vr_int h
      exact cc call_str_int ⟨_, rfl, hz, k F as _ H .refl sr ra_str⟩
    · cases e
  · cases e
theorem co_list (hg : g.K = X.K) : CallOk g X (.type "list") bList := by
  intro xs s F as μ H vs Q e sr hx k
  unfold bList at e
  split at e
  · cases e
    obtain ⟨v, rfl, h⟩ := vrs1 hx
    obtain ⟨a, us, rfl, h1, h2⟩ := vr_lst sr h
    refine cc call_list_of ⟨_, us, rfl, .inl (SqL.of h1), fun p hp => ?_⟩
    obtain ⟨sr', f, n⟩ := sr.loose (o := .lst us) hp
    exact k F as _ _ .refl sr' (ra_lst upd_same f n h2)
  · cases e
    obtain ⟨v, rfl, h⟩ := vrs1 hx
    obtain ⟨a, us, rfl, h1, h2⟩ := vr_tup sr h
    refine cc call_list_of ⟨_, us, rfl, .inr (hg ▸ h1), fun p hp => ?_⟩
    obtain ⟨sr', f, n⟩ := sr.loose (o := .lst us) hp
    exact k F as _ _ .refl sr' (ra_lst upd_same f n h2)
  · cases e
    obtain ⟨v, rfl, h⟩ := vrs1 hx
    obtain ⟨a, rfl, h1⟩ := vr_scr sr h
    refine cc call_list_of ⟨_, _, rfl, .inl (hg ▸ h1), fun p hp => ?_⟩
    obtain ⟨sr', f, n⟩ := sr.loose (o := .lst _) hp
    exact k F as _ _ .refl sr' (ra_lst upd_same f n ints_rep)
  · cases e
theorem co_tuple (hg : g.K = X.K) : CallOk g X (.type "tuple") bTuple := by
  intro xs s F as μ H vs Q e sr hx k
  unfold bTuple at e
  split at e
  · rename_i ds
    cases e
    obtain ⟨v, rfl, h⟩ := vrs1 hx
    obtain ⟨a, us, rfl, h1, h2⟩ := vr_lst sr h
    refine cc call_tuple_of ⟨_, us, rfl, .inl ⟨SqL.of h1, fun p hp => ?_⟩⟩
    obtain ⟨sr', x', y'⟩ := sr.frozen (o := .tup us) hp
    refine k _ as _ _ x' sr' ?_
    show Rep g _ (.tup ds) _
    unfold Rep
    exact ⟨p, us, rfl, SqT.of y', h2.mono x'.1⟩
  · rename_i ds
    cases e
    obtain ⟨v, rfl, h⟩ := vrs1 hx
    obtain ⟨a, us, rfl, h1, h2⟩ := vr_tup sr h
    refine cc call_tuple_of ⟨_, us, rfl, .inr ⟨hg ▸ h1, ?_⟩⟩
    rcases h with ⟨_, _, _, e', _⟩ | h
    · cases e'
    · exact k F as _ H .refl sr h
  · cases e
theorem co_all (hc : X.calm = true) : CallOk g X (.builtin "all") bAll := by
  intro xs s F as μ H vs Q e sr hx k
  unfold bAll at e
  split at e
  · obtain ⟨bs, hb, rfl⟩ := Option.map_eq_some_iff.mp e
    obtain ⟨v, rfl, h⟩ := vrs1 hx
    obtain ⟨a, us, rfl, h1, h2⟩ := vr_lst sr h
    rw [bls_rep hb h2] at h1
    exact cc (cr_all hc) ⟨_, _, rfl, SqL.of h1, k F as _ H .refl sr ra_bl⟩
  · cases e
theorem co_any (hc : X.calm = true) : CallOk g X (.builtin "any") bAny := by
  intro xs s F as μ H vs Q e sr hx k
  unfold bAny at e
  split at e
  · obtain ⟨bs, hb, rfl⟩ := Option.map_eq_some_iff.mp e
    obtain ⟨v, rfl, h⟩ := vrs1 hx
    obtain ⟨a, us, rfl, h1, h2⟩ := vr_lst sr h
    rw [bls_rep hb h2] at h1
    exact cc (cr_any hc) ⟨_, _, rfl, SqL.of h1, k F as _ H .refl sr ra_bl⟩
  · cases e
end

/-! ### isinstance -/
def tyNames : List String := ["NoneType", "bool", "int", "str", "list", "tuple", "dict"]
/-- of two built-in types -/
def tyIs (a b : String) : Option Bool :=
  if tyNames.contains a && ["bool", "int", "str", "list", "tuple", "dict"].contains b then some (a == b || (a == "bool" && b == "int")) else none
theorem tyIs_kit {K : PySem.W.Frag} {a b : String} {r : Bool} (h : tyIs a b = some r) : PySem.W.kitOne K (.type a) (.type b) = some r := by
  refine kit_ty ?_
  unfold tyIs at h
  split at h
  · rename_i hz
    rw [Bool.and_eq_true] at hz
    have h1 := hz.1
    have h2 := hz.2
    simp only [tyNames, List.contains_cons, List.contains_nil, Bool.or_false, Bool.or_eq_true, beq_iff_eq] at h1 h2
    rcases h1 with rfl | rfl | rfl | rfl | rfl | rfl | rfl <;> rcases h2 with rfl | rfl | rfl | rfl | rfl | rfl <;> (cases h; decide +kernel)
  · cases h
/-- what the head must tell of the classes: n plain ones, m in all -/
structure KitF (g : G) (n m : Nat) (sub : Nat → Nat → Bool) : Prop where
  cls : ∀ c, c < n → Cls g.K (g.cad c)
  ha : ∀ c, c < n → PySem.W.findIn g.K (.ref (g.cad c)) "__class__" = some (some (.builtin "object.__class__"))
  hn : 0 < n → PySem.W.specialIn g.K (.builtin "object.__class__") "__get__" = some (some (.builtin "getset_descriptor.__get__"))
  htk : 0 < n → PySem.W.takesIn g.K (.builtin "object.__class__") = some true
  hm : ∀ c, c < n → PySem.W.mroIn g.K (g.cad c) (.type "object") = some true
  ty : ∀ c T, c < m → tyNames.contains T = true → PySem.W.kitOne g.K (.type T) (.ref (g.cad c)) = some false
  own : ∀ c c', c < n → c' < m → PySem.W.kitOne g.K (.ref (g.cad c)) (.ref (g.cad c')) = some (sub c c')
  bl : ∀ c T, c < n → ["bool", "int", "str", "list", "tuple", "dict"].contains T = true → PySem.W.kitOne g.K (.ref (g.cad c)) (.type T) = some false
def dTy : D → Option String
  | .non => some "NoneType"
  | .bl _ => some "bool"
  | .int _ => some "int"
  | .str _ => some "str"
  | .tup _ => some "tuple"
  | .lst _ => some "list"
  | .scr _ => some "list"
  | .dic _ _ => some "dict"
  | _ => none
def isOne (n m : Nat) (sub : Nat → Nat → Bool) (x c : D) : Option Bool := match x, c with
  | .obj i _, .cls j => if i < n ∧ j < m then some (sub i j) else none
  | .obj i _, .ty T => if i < n ∧ ["bool", "int", "str", "list", "tuple", "dict"].contains T = true then some false else none
  | x, .cls j => match dTy x with
    | some _ => if j < m then some false else none
    | none => none
  | x, .ty T => match dTy x with
    | some a => tyIs a T
    | none => none
  | _, _ => none
def bIsi (n m : Nat) (sub : Nat → Nat → Bool) : List D → Option S
  | [x, c] => (isOne n m sub x c).map fun b => .val (.bl b)
  | _ => none
section
variable {g : G} {X : Cx} {n m : Nat} {sub : Nat → Nat → Bool}
theorem dTy_in {x : D} {a : String} (h : dTy x = some a) : tyNames.contains a = true := by
  cases x <;> first | (cases h; decide) | (cases h)
theorem dTy_ty {F H : Hp} {as : List Addr} {μ : Sto} {x : D} {a : String} {v : V} (hg : g.K = X.K) (sr : SR g F as μ H) (h : dTy x = some a) (r : VR g F H x v) : TyX X.K H v (.type a) := by
  cases x with
  | non => cases h; cases vr_non r; exact .base .non
  | bl b => cases h; cases vr_bl r; exact .base (.bl b)
  | int i => cases h; cases vr_int r; exact .base (.int i)
  | str z => cases h; cases vr_str r; exact .base (.str z)
  | lst ds => cases h; obtain ⟨a, vs, rfl, h1, _⟩ := vr_lst sr r; exact .base (.lst h1)
  | tup ds =>
    cases h
    obtain ⟨a, vs, rfl, h1, _⟩ := vr_tup sr r
    rcases h1 with (h1 | ⟨o, h1⟩) | ⟨o, its, k, h1, h2, _⟩
    · exact .base (.tup h1)
    · exact .fTuple h1
    · exact .kTuple (hg ▸ h1) h2
  | scr ns =>
    cases h
    obtain ⟨a, rfl, h1⟩ := vr_scr sr r
    rcases h1 with (h1 | ⟨o, h1⟩) | ⟨o, its, k, h1, h2, _⟩
    · exact .base (.lst h1)
    · exact .base (.frz h1)
    · exact .kList (hg ▸ h1) h2
  | dic ks ds =>
    cases h
    rcases r with ⟨_, _, _, e, _⟩ | r
    · cases e
    · unfold Rep at r
      obtain ⟨a, vs, rfl, e1, _⟩ := r
      exact .base (.dK (sr.sub _ _ e1))
  | _ => cases h
theorem vr_obj {F H : Hp} {as : List Addr} {μ : Sto} {c : Nat} {fs : List D} {v : V} (sr : SR g F as μ H) (h : VR g F H (.obj c fs) v) : ∃ a dx vs, v = .ref a ∧ H a = some (.ins (g.cad c) dx ((g.fl c).zip vs)) ∧ vs.length = (g.fl c).length ∧ Reps g F fs vs := by
  rcases h with ⟨_, _, _, e, _⟩ | h
  · cases e
  · unfold Rep at h
    obtain ⟨a, dx, vs, e1, e2, e3, e4⟩ := h
    exact ⟨a, dx, vs, e1, sr.sub _ _ e2, e3, e4⟩
theorem vr_cls {F H : Hp} {c : Nat} {v : V} (h : VR g F H (.cls c) v) : v = .ref (g.cad c) := by
  rcases h with ⟨_, _, _, e, _⟩ | h
  · cases e
  · unfold Rep at h; exact h
theorem vr_ty {F H : Hp} {T : String} {v : V} (h : VR g F H (.ty T) v) : v = .ty T := by
  rcases h with ⟨_, _, _, e, _⟩ | h
  · cases e
  · unfold Rep at h; exact h
theorem co_isi (hg : g.K = X.K) (kf : KitF g n m sub) : CallOk g X (.builtin "isinstance") (bIsi n m sub) := by
  intro xs s F as μ H vs Q e sr hx k
  unfold bIsi at e
  split at e
  · rename_i x c
    obtain ⟨b, h, rfl⟩ := Option.map_eq_some_iff.mp e
    obtain ⟨v, u, rfl, h1, h2⟩ := vrs2 hx
    have fin : Q (.bl b) H := k F as _ H .refl sr ra_bl
    unfold isOne at h
    split at h
    · rename_i i fs j
      split at h
      · rename_i hz
        cases h
        obtain ⟨a, dx, us, rfl, e1, _, _⟩ := vr_obj sr h1
        cases vr_cls h2
        refine cc call_isi ⟨_, _, _, _, _, rfl, .own _, .base (.ins e1 ?_ ?_ ?_ ?_ ?_), ?_, fin⟩
        · exact hg ▸ kf.cls i hz.1
        · exact hg ▸ kf.ha i hz.1
        · exact hg ▸ kf.hn (Nat.lt_of_le_of_lt (Nat.zero_le _) hz.1)
        · exact hg ▸ kf.htk (Nat.lt_of_le_of_lt (Nat.zero_le _) hz.1)
        · exact hg ▸ kf.hm i hz.1
        · exact hg ▸ kf.own i j hz.1 hz.2
      · cases h
    · rename_i i fs T
      split at h
      · rename_i hz
        cases h
        obtain ⟨a, dx, us, rfl, e1, _, _⟩ := vr_obj sr h1
        cases vr_ty h2
        refine cc call_isi ⟨_, _, _, _, _, rfl, .ty _, .base (.ins e1 ?_ ?_ ?_ ?_ ?_), ?_, fin⟩
        · exact hg ▸ kf.cls i hz.1
        · exact hg ▸ kf.ha i hz.1
        · exact hg ▸ kf.hn (Nat.lt_of_le_of_lt (Nat.zero_le _) hz.1)
        · exact hg ▸ kf.htk (Nat.lt_of_le_of_lt (Nat.zero_le _) hz.1)
        · exact hg ▸ kf.hm i hz.1
        · exact hg ▸ kf.bl i T hz.1 hz.2
      · cases h
    · rename_i j _
      split at h
      · rename_i a ha
        split at h
        · rename_i hz
          cases h
          cases vr_cls h2
          exact cc call_isi ⟨_, _, _, _, _, rfl, .own _, dTy_ty hg sr ha h1, hg ▸ kf.ty j a hz (dTy_in ha), fin⟩
        · cases h
      · cases h
    · split at h
      · rename_i a ha
        cases vr_ty h2
        exact cc call_isi ⟨_, _, _, _, _, rfl, .ty _, dTy_ty hg sr ha h1, tyIs_kit h, fin⟩
      · cases h
    · cases h
  · cases e
end

/-! ### places -/
def dIx : D → D → Option S
  | .lst ds, .int i => (atI ds i).map .val
  | .tup ds, .int i => (atI ds i).map .val
  | .scr ns, .int i => (atI ns i).map fun n => .val (.int n)
  | .str z, .int i => if z.length ≤ sizeLine then (atI z.cps.toList i).map fun c => .val (.str ⟨#[c]⟩) else none
  | _, _ => none
def notSlice : Expr → Bool
  | .Slice _ _ _ _ => false
  | _ => true
theorem plainIx {e : Expr} (h : notSlice e = true) : PlainIx e := by
  cases e <;> first | (exact fun _ _ => rfl) | (exact absurd (show false = true from h) Bool.false_ne_true)
section
variable {g : G} {X : Cx} {W : WX} {a b : Expr} {ma mb : ME} {pos : Pos}
theorem atI_reps {F : Hp} {ds : List D} {vs : List V} {i : Int} {d : D} (r : Reps g F ds vs) (h : atI ds i = some d) : ∃ v, atI vs i = some v ∧ Rep g F d v := by
  unfold atI at h ⊢
  obtain ⟨j, h1, h2⟩ := Option.bind_eq_some_iff.mp h
  obtain ⟨v, h3, h4⟩ := r.get h2
  refine ⟨v, ?_, h4⟩
  rw [r.length, h1]
  exact h3
theorem se_ix (hg : g.K = X.K) (ha : SE g X W a ma) (hb : SE g X W b mb) (hs : notSlice b = true) : SE g X W (.Subscript a b pos) (mOp2 dIx ma mb) := by
  refine ⟨fun F as ρ μ σ H Q r μ' h sr er post => wE (pe_ix ix_seq pe_wp pe_wp (plainIx hs)) ?_⟩
  refine ha.then_ (show andThen _ _ = some (r, μ') from h) sr er (fun x e => by subst e; exact post) fun s1 μ1 F1 as1 v1 H1 h1 x1 sr1 er1 ra1 => ?_
  obtain ⟨F1', x1', sr1', rs1⟩ := root_ok sr1 ra1
  refine hb.then_ h1 sr1' (er1.mono x1') (fun x e => by subst e; exact PErr.ext (x1.trans x1') post) fun s2 μ2 F2 as2 v2 H2 h2 x2 sr2 er2 ra2 => ?_
  obtain ⟨x, y, s, e1, e2, e3, e4, e5⟩ := fin2_some h2
  subst e4 e5
  have hx := view_rs sr2 (rs1.mono x2) e1
  have hy := view_ra sr2 ra2 e2
  have fin : ∀ w, RA g F2 as2 H2 s w → Q w H2 := fun w q => post F2 as2 w H2 ((x1.trans x1').trans x2) sr2 q
  unfold dIx at e3
  split at e3
  · obtain ⟨d, e6, rfl⟩ := Option.map_eq_some_iff.mp e3
    obtain ⟨p, vs, rfl, h3, h4⟩ := vr_lst sr2 hx
    cases vr_int hy
    obtain ⟨w, h5, h6⟩ := atI_reps h4 e6
    exact .inl ⟨p, vs, _, w, rfl, rfl, SqL.of h3, h5, fin w h6⟩
  · obtain ⟨d, e6, rfl⟩ := Option.map_eq_some_iff.mp e3
    obtain ⟨p, vs, rfl, h3, h4⟩ := vr_tup sr2 hx
    cases vr_int hy
    obtain ⟨w, h5, h6⟩ := atI_reps h4 e6
    exact .inr (.inl ⟨p, vs, _, w, rfl, rfl, hg ▸ h3, h5, fin w h6⟩)
  · obtain ⟨d, e6, rfl⟩ := Option.map_eq_some_iff.mp e3
    obtain ⟨p, rfl, h3⟩ := vr_scr sr2 hx
    cases vr_int hy
    refine .inl ⟨p, _, _, .int d, rfl, rfl, hg ▸ h3, ?_, fin _ ra_int⟩
    unfold atI at e6 ⊢
    obtain ⟨j, h5, h6⟩ := Option.bind_eq_some_iff.mp e6
    rw [List.length_map, h5]
    show (List.map V.int _)[j]? = _
    rw [List.getElem?_map, h6]
    rfl
  · split at e3
    · rename_i hz
      obtain ⟨d, e6, rfl⟩ := Option.map_eq_some_iff.mp e3
      cases vr_str hx
      cases vr_int hy
      exact .inr (.inr ⟨_, _, d, rfl, rfl, hz, e6, fin _ ra_str⟩)
    · cases e3
  · cases e3
end

/-! ### attributes of an instance -/
def notCall : Expr → Bool
  | .Call _ _ _ _ => false
  | _ => true
theorem attrBase {e : Expr} {f : Str} {env : PySem.Env} (h : notCall e = true) : attributeBase e f env (eval e env) = eval e env := by
  cases e <;> first | rfl | (exact absurd (show false = true from h) Bool.false_ne_true)
/-- the fields' places: of class c the name f is the k-th -/
def fldIx (fls : List (List Str)) (c : Nat) (f : Str) : Option Nat := match fls[c]? with
  | some l => l.idxOf? f
  | none => none
def insGet (f : Str) : List (Str × D) → Option D := List.lookup f
def finA (fls : List (List Str)) (f : Str) (s : S) (μ : Sto) : Option R := match s with
  | .val (.obj c fs) => (match fldIx fls c f with
    | some k => (match fs[k]? with
      | some d => some (.ok (.val d), μ)
      | none => none)
    | none => none)
  | .cell k => (match μ[k]? with
    | some (.ins c fs) => (match insGet f fs with
      | some d => if c < fls.length then some (.ok (.val d), μ) else none
      | none => none)
    | _ => none)
  | _ => none
def mAttr (fls : List (List Str)) (f : Str) (a : ME) : ME := fun ρ μ => andThen (a ρ μ) (finA fls f)
/-- the classes' fields as the head has them -/
structure FldF (g : G) (fls : List (List Str)) : Prop where
  fl : ∀ c l, fls[c]? = some l → g.fl c = l
  cls : ∀ c, c < fls.length → Cls g.K (g.cad c)
  no : ∀ c l f, fls[c]? = some l → f ∈ l → NoAttr g.K (g.cad c) f
theorem idxOf_lookup {l : List Str} {vs : List V} {f : Str} {k : Nat} {v : V} (h : l.idxOf? f = some k) (hv : vs[k]? = some v) : (l.zip vs).lookup f = some v := by
  induction l generalizing vs k with
  | nil => simp at h
  | cons x l ih =>
    rw [List.idxOf?_cons] at h
    cases vs with
    | nil => simp at hv
    | cons w vs =>
      by_cases e : x = f
      · subst e
        simp only [beq_self_eq_true, if_true, Option.some.injEq] at h
        subst h
        simp only [List.getElem?_cons_zero, Option.some.injEq] at hv
        subst hv
        simp [List.lookup]
      · have e1 : (x == f) = false := beq_eq_false_iff_ne.mpr e
        rw [e1] at h
        simp only [Bool.false_eq_true, if_false, Option.map_eq_some_iff] at h
        obtain ⟨j, h1, rfl⟩ := h
        rw [List.getElem?_cons_succ] at hv
        have e2 : (f == x) = false := beq_eq_false_iff_ne.mpr (fun z => e z.symm)
        show List.lookup f ((x, w) :: l.zip vs) = some v
        simp only [List.lookup, e2]
        exact ih h1 hv
theorem lookup_reps {g : G} {F : Hp} {f : Str} {d : D} : ∀ {fs : List (Str × D)} {vs : List V}, Reps g F (fs.map (·.2)) vs → fs.lookup f = some d → ∃ v, ((fs.map (·.1)).zip vs).lookup f = some v ∧ Rep g F d v
  | [], _, _, h => by cases h
  | (x, y) :: fs, vs, r, h => by
    obtain ⟨v, r', rfl, h1, h2⟩ := Reps.cons_iff.mp r
    simp only [List.map_cons, List.zip_cons_cons]
    by_cases e : f = x
    · subst e
      simp only [List.lookup, beq_self_eq_true, Option.some.injEq] at h ⊢
      subst h
      exact ⟨v, rfl, h1⟩
    · have e1 : (f == x) = false := beq_eq_false_iff_ne.mpr e
      simp only [List.lookup, e1] at h ⊢
      exact lookup_reps h2 h
theorem mem_idx {l : List Str} {f : Str} {k : Nat} (h : l.idxOf? f = some k) : f ∈ l := by
  induction l generalizing k with
  | nil => simp at h
  | cons x l ih =>
    rw [List.idxOf?_cons] at h
    by_cases e : x = f
    · subst e; exact List.mem_cons_self
    · have e1 : (x == f) = false := beq_eq_false_iff_ne.mpr e
      rw [e1] at h
      simp only [Bool.false_eq_true, if_false, Option.map_eq_some_iff] at h
      obtain ⟨j, h1, _⟩ := h
      exact List.mem_cons_of_mem _ (ih h1)
section
variable {g : G} {X : Cx} {W : WX} {a : Expr} {ma : ME} {pos : Pos} {f : Str} {fls : List (List Str)}
theorem se_attr (hg : g.K = X.K) (ff : FldF g fls) (hno : ∀ c, c < fls.length → NoAttr g.K (g.cad c) f) (ha : SE g X W a ma) (hs : notCall a = true) : SE g X W (.Attribute a f pos) (mAttr fls f ma) := by
  refine ⟨fun F as ρ μ σ H Q r μ' h sr er post => wE (pe_fld pe_wp (attrBase hs)) ?_⟩
  refine ha.then_ (show andThen _ _ = some (r, μ') from h) sr er (fun x e => by subst e; exact post) fun s1 μ1 F1 as1 v1 H1 h1 x1 sr1 er1 ra1 => ?_
  unfold finA at h1
  split at h1
  · rename_i c fs
    split at h1
    · rename_i k hk
      split at h1
      · rename_i d hd
        cases h1
        have r1 : Rep g F1 (.obj c fs) v1 := ra1
        obtain ⟨p, dx, vs, rfl, h2, h3, h4⟩ := vr_obj sr1 (.inr r1)
        obtain ⟨w, h5, h6⟩ := h4.get hd
        unfold fldIx at hk
        split at hk
        · rename_i l hl
          have hc : c < fls.length := (List.getElem?_eq_some_iff.mp hl).1
          rw [ff.fl c l hl] at h2
          refine ⟨p, _, dx, _, w, rfl, h2, hg ▸ ff.cls c hc, hg ▸ hno c hc, idxOf_lookup hk h5, post F1 as1 w H1 x1 sr1 h6⟩
        · cases hk
      · cases h1
    · cases h1
  · rename_i k
    split at h1
    · rename_i c fs hc
      split at h1
      · rename_i d hd
        split at h1
        · rename_i hlt
          cases h1
          obtain ⟨p, h2, rfl⟩ := (show ∃ p, as1[k]? = some p ∧ v1 = .ref p from ra1)
          obtain ⟨_, dx, vs, h3, h4, h5⟩ := sr1.cells k p _ h2 hc
          obtain ⟨w, h6, h7⟩ := lookup_reps h5 hd
          exact ⟨p, _, dx, _, w, rfl, h3, hg ▸ ff.cls c hlt, hg ▸ hno c hlt, h6, post F1 as1 w H1 x1 sr1 h7⟩
        · cases h1
      · cases h1
    · cases h1
  · cases h1
end
end Sz

set_option Elab.async false
set_option linter.all false
set_option maxRecDepth 100000
set_option maxHeartbeats 4000000
/-! Sz F: calls of the text's own defs, methods, classes. -/
namespace Sz
open PySem PySem.Spec L2

/-! ### keywords -/
def kwNames : List Keyword → Option (List Str)
  | [] => some []
  | ⟨some n, _, _⟩ :: r => (kwNames r).map (n :: ·)
  | _ => none
theorem kw_all {env : PySem.Env} {pos : Pos} : ∀ {kws : List Keyword} {ks : List Str}, kwNames kws = some ks →
    (backToKw pos (keywordEach kws env)).all (·.1.isSome) = true ∧ (backToKw pos (keywordEach kws env)).filterMap (·.1) = ks ∧ (backToKw pos (keywordEach kws env)).any (·.1.isNone) = false ∧ kws.length = ks.length
  | [], ks, h => by cases h; exact ⟨rfl, rfl, rfl, rfl⟩
  | ⟨none, _, _⟩ :: r, ks, h => by cases h
  | ⟨some n, v, p⟩ :: r, ks, h => by
    unfold kwNames at h
    obtain ⟨ks', h1, rfl⟩ := Option.map_eq_some_iff.mp h
    obtain ⟨a, b, c, d⟩ := kw_all (env := env) (pos := pos) h1
    refine ⟨?_, ?_, ?_, by rw [List.length_cons, List.length_cons, d]⟩
    · show (true && (backToKw pos (keywordEach r env)).all (·.1.isSome)) = true
      rw [a]; rfl
    · show n :: (backToKw pos (keywordEach r env)).filterMap (·.1) = n :: ks'
      rw [b]
    · show (false || (backToKw pos (keywordEach r env)).any (·.1.isNone)) = false
      rw [c]; rfl
section
variable {g : G} {X : Cx} {W : WX} {e : Expr} {m : ME} {ms : List ME} {kws : List Keyword} {nm : Option Str} {kpos : Pos}
theorem sk_nil : SK g X W [] (mArgs []) := by
  refine ⟨fun F as ρ μ σ H Q r μ' h sr er post => wK pk_nil ?_⟩
  cases h
  exact post F as [] H .refl sr .nil
theorem sk_cons (h1 : SE g X W e m) (h2 : SK g X W kws (mArgs ms)) : SK g X W (⟨nm, e, kpos⟩ :: kws) (mArgs (m :: ms)) := by
  refine ⟨fun F as ρ μ σ H Q r μ' h sr er post => wK (pk_cons pe_wp pk_wp) ?_⟩
  refine h1.then_ (show andThen _ _ = some (r, μ') from h) sr er (fun x e => by subst e; exact post) fun s1 μ1 F1 as1 v1 H1 h3 x1 sr1 er1 ra1 => ?_
  obtain ⟨F1', x1', sr1', rs1⟩ := root_ok sr1 ra1
  refine h2.then_ h3 sr1' (er1.mono x1') (fun x e => by subst e; exact PErr.ext (x1.trans x1') post) fun ss μ2 F2 as2 vs H2 h4 x2 sr2 er2 rs2 => ?_
  cases h4
  exact post F2 as2 _ H2 ((x1.trans x1').trans x2) sr2 (.cons (rs1.mono x2) rs2)
end

/-! ### binding -/
/-- the bound values in the parameters' order: positional, by name, defaults -/
def bindG {α : Type} (ks : List Str) (us ws dfl : List α) (np : Nat) : List Str → Nat → Option (List α)
  | [], _ => some []
  | p :: ps, i => match (match us[i]? with
      | some x => some x
      | none => match ks.idxOf? p with
        | some j => ws[j]?
        | none => dfl[i + dfl.length - np]?), bindG ks us ws dfl np ps (i + 1) with
    | some x, some r => some (x :: r)
    | _, _ => none
theorem Paired.len {α β : Type} {R : α → β → Prop} {xs : List α} {ys : List β} (h : Paired R xs ys) : xs.length = ys.length := Paired.length h
theorem paired_get {α β : Type} {R : α → β → Prop} : ∀ {xs : List α} {ys : List β} {i : Nat} {x : α}, Paired R xs ys → xs[i]? = some x → ∃ y, ys[i]? = some y ∧ R x y
  | _, _, _, _, .nil, e => by simp at e
  | _, _, 0, _, .cons r _, e => by simp at e; subst e; exact ⟨_, rfl, r⟩
  | _, _, i + 1, x, .cons _ t, e => by
    obtain ⟨u, h1, h2⟩ := paired_get (i := i) (x := x) t (by simpa using e)
    exact ⟨u, by simpa using h1, h2⟩
theorem bindG_ex {α β : Type} {R : α → β → Prop} {ks : List Str} {us ws dfl : List α} {us' ws' dfl' : List β} {np : Nat} (hu : Paired R us us') (hw : Paired R ws ws') (hd : Paired R dfl dfl') :
    ∀ {ps : List Str} {i : Nat} {b : List α}, bindG ks us ws dfl np ps i = some b → ∃ b', bindG ks us' ws' dfl' np ps i = some b' ∧ Paired R b b'
  | [], i, b, h => by
    cases h
    exact ⟨[], rfl, .nil⟩
  | p :: ps, i, b, h => by
    unfold bindG at h
    split at h
    · rename_i x r h1 h2
      cases h
      obtain ⟨b', e1, e2⟩ := bindG_ex hu hw hd h2
      have key : ∃ x', (match us'[i]? with
          | some x => some x
          | none => match ks.idxOf? p with
            | some j => ws'[j]?
            | none => dfl'[i + dfl'.length - np]?) = some x' ∧ R x x' := by
        cases q : us[i]? with
        | some y =>
          rw [q] at h1
          cases h1
          obtain ⟨y', q', r⟩ := paired_get hu q
          exact ⟨y', by rw [q'], r⟩
        | none =>
          have q' : us'[i]? = none := by
            rw [List.getElem?_eq_none_iff] at q ⊢
            rw [← Paired.length hu]; exact q
          rw [q] at h1
          rw [q']
          simp only at h1 ⊢
          cases z : ks.idxOf? p with
          | some j =>
            rw [z] at h1
            simp only at h1 ⊢
            exact paired_get hw h1
          | none =>
            rw [z] at h1
            simp only at h1 ⊢
            rw [← Paired.length hd]
            exact paired_get hd h1
      obtain ⟨x', k1, k2⟩ := key
      refine ⟨x' :: b', ?_, .cons k2 e2⟩
      unfold bindG
      rw [k1, e1]
    · cases h
theorem bindG_rel {α β : Type} {R : α → β → Prop} {ks : List Str} {us ws dfl : List α} {us' ws' dfl' : List β} {np : Nat} (hu : Paired R us us') (hw : Paired R ws ws') (hd : Paired R dfl dfl')
    {ps : List Str} {i : Nat} {b : List α} {b' : List β} (h : bindG ks us ws dfl np ps i = some b) (h' : bindG ks us' ws' dfl' np ps i = some b') : Paired R b b' := by
  obtain ⟨c, e1, e2⟩ := bindG_ex hu hw hd h
  rw [h'] at e1
  cases e1
  exact e2
/-- how a def's call of that shape binds -/
structure Bnd (K : PySem.W.Frag) (fd : FuncData) (ps : List Str) (n : Nat) (ks : List Str) (dvs : List V) : Prop where
  to : ∃ ds, Vals dvs ds ∧ ∀ (s : Shared) (us ws : List Value), K.In s.heap → us.length = n → ws.length = ks.length →
    ∃ b, bindG ks us ws ds ps.length ps 0 = some b ∧ BindsTo s fd ⟨us, ks.zip ws⟩ (ps.zip b)
theorem bindG_len {α : Type} {ks : List Str} {us ws dfl : List α} {np : Nat} : ∀ {ps : List Str} {i : Nat} {b : List α}, bindG ks us ws dfl np ps i = some b → b.length = ps.length
  | [], _, _, h => by cases h; rfl
  | p :: ps, i, b, h => by
    unfold bindG at h
    split at h
    · rename_i x r h1 h2
      cases h
      rw [List.length_cons, List.length_cons, bindG_len h2]
    · cases h

/-! ### what a def promises -/
/-- a def's promise; gb: only where no repr is under way -/
structure FnG (gb : Bool) (P : Program) (w : World) (K : PySem.W.Frag) (mg : Str → Option Value) (base : Heap) (cx : CXT) (k : Nat) (f : Addr) (fd : FuncData) (ps : List Str) (sp : Sp) : Prop where
  wide : ∀ vs H Q E, sp vs H Q E → vs.length = ps.length
  go : ∀ (A : Around) (outer : List Env) (s : Shared) (H : Hp) (args : Args) (us : List Value) (vs : List V) (Q : VK) (E : XK), Room k A → (gb = true → A.guards = some []) → Env0 P w K mg base A outer s H → BindsTo s fd args (ps.zip us) → Vals vs us → sp vs H Q E →
    codeAny (model P w) A (.call (.ref f) args) (CR cx outer P w H s Q E) s
def leB (a b : Bool) : Bool := !a || b
theorem leB_ok {a b : Bool} (h : leB a b = true) (e : a = true) : b = true := by
  subst e
  exact h
section
variable {a b : Bool} {P : Program} {w : World} {K : PySem.W.Frag} {mg : Str → Option Value} {base : Heap} {cx : CXT} {j k : Nat} {f : Addr} {fd : FuncData} {ps : List Str} {sp : Sp}
theorem FnG.at_most (F : FnG a P w K mg base cx j f fd ps sp) (h : j ≤ k) : FnG a P w K mg base cx k f fd ps sp :=
  ⟨F.wide, fun A outer s H args us vs Q E room gd e0 bd rv ask => F.go A outer s H args us vs Q E (room.mono h) gd e0 bd rv ask⟩
theorem FnG.gd (F : FnG a P w K mg base cx k f fd ps sp) (h : leB a b = true) : FnG b P w K mg base cx k f fd ps sp :=
  ⟨F.wide, fun A outer s H args us vs Q E room gd e0 bd rv ask => F.go A outer s H args us vs Q E room (fun e => gd (leB_ok h e)) e0 bd rv ask⟩
end
theorem make_guards {A : Around} {C : Addr} {us : List Value} {kw : List (Str × Value)} : (A.under (.builtin "type.__call__" ⟨.ref C :: us, kw⟩)).guards = A.guards := by
  have e : (Code.builtin "type.__call__" ⟨.ref C :: us, kw⟩).isGuard = false := by
    show guardIds.contains "type.__call__" = false
    decide +kernel
  have z : (Code.builtin "type.__call__" ⟨.ref C :: us, kw⟩).guards = [] := by
    unfold Code.guards
    rw [e]
    rfl
  show pushGuards (Code.builtin "type.__call__" ⟨.ref C :: us, kw⟩).guards A.guards = A.guards
  rw [z]
  cases A.guards <;> rfl
def PostC (g : G) (F : Hp) (as : List Addr) (Q : VK) (E : XK) : Except Ex S → Sto → Prop
  | .ok s, μ' => ∀ F' as' v H', Ext F as F' as' → SR g F' as' μ' H' → RA g F' as' H' s v → Q v H'
  | .error x, μ' => ∀ F' as' cls d H', Ext F as F' as' → SR g F' as' μ' H' → RX g F' H' x cls d → E cls d H'
/-- the promise: it does what the shallow code tells -/
def spOf (g : G) (np : Nat) (sem : List S → Sto → Option R) : Sp := fun vs H Q E => vs.length = np ∧ ∃ F as ss μ r μ', SR g F as μ H ∧ RSs g F as ss vs ∧ sem ss μ = some (r, μ') ∧ PostC g F as Q E r μ'
section
variable {gb : Bool} {g : G} {X : Cx} {W : WX} {k : Nat} {f C : Addr} {fd : FuncData} {ps ks : List Str} {sp : Sp} {dvs : List V} {n : Nat}
/-- the callee runs -/
theorem run_sem {pins : List (Addr × Obj)} {σ : L2.St} {H : Hp} {s : Shared} {Q : VK} {us ws : List Value} {vs zs bs : List V} (F : FnG gb X.prog X.w X.K X.mg X.base (CX X.prog X.w) k f fd ps sp) (hr : Room k X.A) (gd : gb = true → X.A.guards = some []) (hb : Bnd X.K fd ps n ks dvs) (tk : Takes X W)
    (I : Inv X pins σ H s) (r : Vals vs us) (rz : Vals zs ws) (l1 : vs.length = n) (l2 : zs.length = ks.length) (hB : bindG ks vs zs dvs ps.length ps 0 = some bs) (h : sp bs H Q (WE W σ)) : wpAny (model X.prog X.w) X.A (call (.ref f) us (ks.zip ws)) (EP X pins σ Q) X.xe s := by
  obtain ⟨ds, rd, hb⟩ := hb.to
  obtain ⟨b, e1, e2⟩ := hb s us ws I.kIn (r.length.symm.trans l1) (rz.length.symm.trans l2)
  have r2 : Vals bs b := bindG_rel r rz rd hB e1
  refine wpAny_call (codeAny_mono (F.go X.A X.stack s H ⟨us, ks.zip ws⟩ b bs Q (WE W σ) hr gd I.env0 e2 r2 h) fun r s' hq => ?_)
  cases r with
  | error e => exact passAt tk σ pins H s e s' I hq
  | ok fl =>
    cases fl with
    | ret u => exact I.after hq
    | next => exact False.elim hq
    | brk => exact False.elim hq
    | cont => exact False.elim hq
/-- C(..): a new instance, its __init__ -/
theorem run_make_sem {pins : List (Addr × Obj)} {σ : L2.St} {H : Hp} {s : Shared} {Q : VK} {us ws : List Value} {vs zs : List V} (M : Mk X.K C f) (F : FnG gb X.prog X.w X.K X.mg X.base (CX X.prog X.w) k f fd ps sp) (hr : Room (k + 1) X.A) (gd : gb = true → X.A.guards = some []) (hb : Bnd X.K fd ps (n + 1) ks dvs)
    (tk : Takes X W) (I : Inv X pins σ H s) (r : Vals vs us) (rz : Vals zs ws) (l1 : vs.length = n) (l2 : zs.length = ks.length)
    (h : ∀ x dx, H x = none → H dx = none → dx ≠ x → ∃ bs, bindG ks (.ref x :: vs) zs dvs ps.length ps 0 = some bs ∧ sp bs (upd (upd H dx (.own x)) x (.ins C dx [])) (fun v H2 => v = .non ∧ Q (.ref x) H2) (WE W σ)) :
    wpAny (model X.prog X.w) X.A (call (.ref C) us (ks.zip ws)) (EP X pins σ Q) X.xe s := by
  obtain ⟨bs, hB, hq⟩ := h (s.heap.objs.size + 1) s.heap.objs.size (I.hok.fresh (Nat.le_succ _)) (I.hok.fresh (Nat.le_refl _)) (Nat.ne_of_lt (Nat.lt_succ_self _))
  have I2 := Inv.made (C := C) I
  have r1 : Vals (V.ref (s.heap.objs.size + 1) :: vs) (Value.ref (s.heap.objs.size + 1) :: us) := .cons rfl r
  obtain ⟨ds, rd, hb⟩ := hb.to
  obtain ⟨b, e1, e2⟩ := hb _ (Value.ref (s.heap.objs.size + 1) :: us) ws I2.kIn (by rw [List.length_cons, ← r.length, l1]) (rz.length.symm.trans l2)
  have r2 : Vals bs b := bindG_rel r1 rz rd hB e1
  refine wpAny_call (make_map (f := f) I.kIn M.makes M.init (beq_iff_eq.mp M.fn) (codeAny_mono (F.go _ X.stack _ _ ⟨Value.ref (s.heap.objs.size + 1) :: us, ks.zip ws⟩ b bs _ (WE W σ) (hr.make C us (ks.zip ws)) (fun e => make_guards.trans (gd e))
    (I2.env0.make C us (ks.zip ws)) e2 r2 hq) fun r s' hq' => ?_))
  cases r with
  | error e => exact passAt tk σ pins _ _ e s' I2 hq'
  | ok fl =>
    cases fl with
    | ret u =>
      obtain ⟨v, H', I3, rv, ev, q3⟩ := I2.after hq'
      subst ev
      exact ⟨rv, ⟨V.ref (s.heap.objs.size + 1), H', I3, rfl, q3⟩⟩
    | next => exact False.elim hq'
    | brk => exact False.elim hq'
    | cont => exact False.elim hq'

/-- an argument list with its code -/
inductive SAs (g : G) (X : Cx) (W : WX) : List Expr → List ME → Prop
  | nil : SAs g X W [] []
  | cons {e : Expr} {es : List Expr} {ms : List ME} (hn : (e :: es).all notStar = true) (h : SA g X W (e :: es) (mArgs ms)) : SAs g X W (e :: es) ms
theorem SAs.sa {es : List Expr} {ms : List ME} (h : SAs g X W es ms) : SA g X W es (mArgs ms) := by
  cases h with
  | nil => exact sa_nil
  | cons hn h => exact h
/-- the values of a call, then the call -/
theorem callW {fv : Value} {first : List Value} {es : List Expr} {ms kms : List ME} {kws : List Keyword} {pos : Pos} {pins : List (Addr × Obj)} {σ : L2.St} {H : Hp} {s : Shared} {Q : VK} {F : Hp} {as : List Addr} {ρ : En} {μ μ' : Sto} {r : Except Ex S}
    {f : List S → List S → Sto → Option R} (I : Inv X pins σ H s) (hk : PySem.W.keepIn X.K fv = true) (hks : kwNames kws = some ks) (ha : SAs g X W es ms) (hkw : SK g X W kws (mArgs kms))
    (h : (andThen (mArgs ms ρ μ) fun ss μ1 => andThen (mArgs kms ρ μ1) fun ts μ2 => f ss ts μ2) = some (r, μ')) (sr : SR g F as μ H) (er : ER g F as ρ σ) (hx : ∀ x, r = .error x → PErr g W F as σ x μ')
    (k : ∀ ss ts μ2 F2 as2 vs zs H2, f ss ts μ2 = some (r, μ') → Ext F as F2 as2 → SR g F2 as2 μ2 H2 → ER g F2 as2 ρ σ → RSs g F2 as2 ss vs → RSs g F2 as2 ts zs → ∀ (st : Shared) (us ws : List Value), Inv X pins σ H2 st → Vals vs us → Vals zs ws → wpAny (model X.prog X.w) X.A (call fv (first ++ us) (ks.zip ws)) (EP X pins σ Q) X.xe st) :
    wpAny (model X.prog X.w) X.A (callWith pos fv first (backTo pos (starEach es X.env)) (backToKw pos (keywordEach kws X.env))) (EP X pins σ Q) X.xe s := by
  obtain ⟨a, b, c, d⟩ := kw_all (env := X.env) (pos := pos) hks
  cases ha with
  | nil =>
    have q : wpK X kws σ H fun zs H2 => ∀ (st : Shared) (ws : List Value), Inv X pins σ H2 st → Vals zs ws → wpAny (model X.prog X.w) X.A (call fv (first ++ []) (ks.zip ws)) (EP X pins σ Q) X.xe st := by
      have h' : (andThen (mArgs kms ρ μ) fun ts μ2 => f [] ts μ2) = some (r, μ') := h
      exact hkw.then_ h' sr er hx fun ts μ2 F2 as2 zs H2 h2 x2 sr2 er2 rs2 st ws I2 rz => k [] ts μ2 F2 as2 [] zs H2 h2 x2 sr2 er2 .nil rs2 st [] ws I2 .nil rz
    refine PySem.W.callWith_KW0 (h₀ := X.base) I.ok.mod.kin hk a (thn (q pos pins s I) fun ws s2 ⟨zs, H2, I2, rz, q2⟩ => ⟨I2.kIn, ?_⟩) (by rw [c]; rfl)
    rw [b]
    exact q2 s2 ws I2 rz
  | cons hn ha =>
    rename_i e es
    rw [List.all_cons, Bool.and_eq_true] at hn
    have q : wpA X (e :: es) σ H fun vs H1 => wpK X kws σ H1 fun zs H2 => ∀ (st : Shared) (us ws : List Value), Inv X pins σ H2 st → Vals vs us → Vals zs ws → wpAny (model X.prog X.w) X.A (call fv (first ++ us) (ks.zip ws)) (EP X pins σ Q) X.xe st := by
      refine ha.then_ h sr er hx fun ss μ1 F1 as1 vs H1 h1 x1 sr1 er1 rs1 => ?_
      exact hkw.then_ h1 sr1 er1 (fun x e => (hx x e).ext x1) fun ts μ2 F2 as2 zs H2 h2 x2 sr2 er2 rs2 st us ws I2 ru rz => k ss ts μ2 F2 as2 vs zs H2 h2 (x1.trans x2) sr2 er2 (rs1.mono x2) rs2 st us ws I2 ru rz
    refine PySem.W.callWith_KW (h₀ := X.base) I.ok.mod.kin hk a (thn (q pos pins s I) fun us s1 ⟨vs, H1, I1, r, q⟩ => ?_) ?_ (starEach_cons hn.1)
    · refine thn (q pos pins s1 I1) fun ws s2 ⟨zs, H2, I2, rz, q2⟩ => ⟨I2.kIn, ?_⟩
      rw [b]
      exact q2 s2 us ws I2 r rz
    · rw [c, starEach_cons hn.1]
      show ((false || (backTo pos (starEach es X.env)).any (·.1)) || false) = false
      rw [starEach_plain hn.2]
      rfl

/-! ### a def called by its name -/
/-- a def as callers see it: parameters, defaults, code -/
structure FnI where
  ps : List Str
  dfl : List D
  sem : List S → Sto → Option R
def callF (fi : FnI) (n : Nat) (ks : List Str) (ss ts : List S) (μ : Sto) : Option R :=
  if ss.length = n ∧ ts.length = ks.length then (match bindG ks ss ts (fi.dfl.map .val) fi.ps.length fi.ps 0 with
    | some bs => fi.sem bs μ
    | none => none) else none
def mCallF (fi : FnI) (n : Nat) (ks : List Str) (ms kms : List ME) : ME := fun ρ μ => andThen (mArgs ms ρ μ) fun ss μ1 => andThen (mArgs kms ρ μ1) fun ts μ2 => callF fi n ks ss ts μ2
/-- what is known of a def there: its object, binding, promise -/
structure FnK (gb : Bool) (g : G) (X : Cx) (fi : FnI) (k : Nat) (f : Addr) (n : Nat) (ks : List Str) : Prop where
  ok : ∃ fd dvs, FnG gb X.prog X.w X.K X.mg X.base (CX X.prog X.w) k f fd fi.ps (spOf g fi.ps.length fi.sem) ∧ Bnd X.K fd fi.ps n ks dvs ∧ ∀ F, Reps g F fi.dfl dvs
theorem rss_vals {F : Hp} {as : List Addr} : ∀ {ds : List D} {vs : List V}, Reps g F ds vs → RSs g F as (ds.map .val) vs
  | [], vs, h => by rw [Reps.nil_iff.mp h]; exact .nil
  | d :: ds, vs, h => by
    obtain ⟨v, r, rfl, h1, h2⟩ := Reps.cons_iff.mp h
    exact .cons h1 (rss_vals h2)
theorem postC_of {F : Hp} {as : List Addr} {σ : L2.St} {Q : VK} {r : Except Ex S} {μ : Sto} (h : PostE g W F as σ Q r μ) : PostC g F as Q (WE W σ) r μ := by
  cases r with
  | ok s => exact h
  | error x => exact h
theorem callF_run {fi : FnI} {f : Addr} {pins : List (Addr × Obj)} {σ : L2.St} {H : Hp} {Q : VK} {F : Hp} {as : List Addr} {μ μ' : Sto} {r : Except Ex S} {ss ts : List S} {vs zs : List V} (hF : FnK gb g X fi k f n ks) (hr : Room k X.A) (gd : gb = true → X.A.guards = some []) (tk : Takes X W)
    (h : callF fi n ks ss ts μ = some (r, μ')) (sr : SR g F as μ H) (rs : RSs g F as ss vs) (rt' : RSs g F as ts zs) (post : PostE g W F as σ Q r μ') (st : Shared) (us ws : List Value) (I : Inv X pins σ H st) (ru : Vals vs us) (rw' : Vals zs ws) :
    wpAny (model X.prog X.w) X.A (call (.ref f) us (ks.zip ws)) (EP X pins σ Q) X.xe st := by
  obtain ⟨fd, dvs, ok, bnd, rd⟩ := hF.ok
  unfold callF at h
  split at h
  · rename_i hl
    split at h
    · rename_i bs hb
      obtain ⟨b', e1, e2⟩ := bindG_ex rs rt' (rss_vals (as := as) (rd F)) hb
      exact run_sem ok hr gd bnd tk I ru rw' (by rw [← Paired.length rs]; exact hl.1) (by rw [← Paired.length rt']; exact hl.2) e1 ⟨bindG_len e1, F, as, bs, μ, r, μ', sr, e2, h, postC_of post⟩
    · cases h
  · cases h
theorem se_call {fi : FnI} {f : Addr} {x : Str} {p pos : Pos} {es : List Expr} {kws : List Keyword} {ms kms : List ME} (hF : FnK gb g X fi k f n ks) (hr : Room k X.A) (gd : gb = true → X.A.guards = some []) (tk : Takes X W) (hg : Gl X x) (hm : X.mg x = some (.ref f)) (hk : PySem.W.keepIn X.K (.ref f) = true)
    (hdb : (x == ("__debug__" : Str)) = false) (hks : kwNames kws = some ks) (ha : SAs g X W es ms) (hkw : SK g X W kws (mArgs kms)) : SE g X W (.Call (.Name x p) es kws pos) (mCallF fi n ks ms kms) := by
  refine ⟨fun F as ρ μ σ H Q r μ' h sr er post pins s I => ?_⟩
  refine wpAny_Call_Name_kw (ld_glob I hg hm ?_ hdb)
  refine callW (first := []) (f := fun ss ts μ2 => callF fi n ks ss ts μ2) I hk hks ha hkw h sr er (fun x e => by subst e; exact post) fun ss ts μ2 F2 as2 vs zs H2 h2 x2 sr2 er2 rs2 rz2 st us ws I2 ru rz => ?_
  exact callF_run hF hr gd tk h2 sr2 rs2 rz2 (PostE.ext x2 post) st us ws I2 ru rz

/-! ### a class called -/
structure MkI where
  c : Nat
  fl : List Str
  fi : FnI
def finM (mi : MkI) (k : Nat) : Option R → Option R
  | some (.ok (.val .non), μ3) => (match μ3[k]? with
    | some (.ins c fs) => if c = mi.c ∧ fs.map (·.1) = mi.fl then some (.ok (.val (.obj mi.c (fs.map (·.2)))), μ3.take k) else none
    | _ => none)
  | some (.error x, μ3) => some (.error x, μ3.take k)
  | _ => none
def callM (mi : MkI) (n : Nat) (ks : List Str) (ss ts : List S) (μ : Sto) : Option R :=
  if ss.length = n ∧ ts.length = ks.length then (match bindG ks (.cell μ.length :: ss) ts (mi.fi.dfl.map .val) mi.fi.ps.length mi.fi.ps 0 with
    | some bs => finM mi μ.length (mi.fi.sem bs (μ ++ [.ins mi.c []]))
    | none => none) else none
def mMake (mi : MkI) (n : Nat) (ks : List Str) (ms kms : List ME) : ME := fun ρ μ => andThen (mArgs ms ρ μ) fun ss μ1 => andThen (mArgs kms ρ μ1) fun ts μ2 => callM mi n ks ss ts μ2
theorem take_ext {F F' : Hp} {as as' : List Addr} {μ : Sto} {H : Hp} (sr : SR g F as μ H) (x : Ext F as F' as') : as'.take μ.length = as := by
  obtain ⟨_, l, rfl⟩ := x
  rw [← sr.len, List.take_left]
/-- the store cut back behind a call -/
theorem SR.back {F F' : Hp} {as as' : List Addr} {μ μ' : Sto} {H H' : Hp} (sr : SR g F as μ H) (x : Ext F as F' as') (sr' : SR g F' as' μ' H') : SR g F' as (μ'.take μ.length) H' := by
  have := sr'.cut μ.length
  rw [take_ext sr x] at this
  exact this
theorem se_make {mi : MkI} {f : Addr} {x : Str} {p pos : Pos} {es : List Expr} {kws : List Keyword} {ms kms : List ME} (hF : FnK gb g X mi.fi k f (n + 1) ks) (hr : Room (k + 1) X.A) (gd : gb = true → X.A.guards = some []) (tk : Takes X W) (M : Mk X.K (g.cad mi.c) f) (hfl : g.fl mi.c = mi.fl) (hg : Gl X x) (hm : X.mg x = some (.ref (g.cad mi.c)))
    (hdb : (x == ("__debug__" : Str)) = false) (hks : kwNames kws = some ks) (ha : SAs g X W es ms) (hkw : SK g X W kws (mArgs kms)) : SE g X W (.Call (.Name x p) es kws pos) (mMake mi n ks ms kms) := by
  refine ⟨fun F as ρ μ σ H Q r μ' h sr er post pins s I => ?_⟩
  refine wpAny_Call_Name_kw (ld_glob I hg hm ?_ hdb)
  refine callW (first := []) (f := fun ss ts μ2 => callM mi n ks ss ts μ2) I M.kp hks ha hkw h sr er (fun x e => by subst e; exact post) fun ss ts μ2 F2 as2 vs zs H2 h2 x2 sr2 er2 rs2 rz2 st us ws I2 ru rz => ?_
  obtain ⟨fd, dvs, ok, bnd, rd⟩ := hF.ok
  unfold callM at h2
  split at h2
  · rename_i hl
    split at h2
    · rename_i bs hb
      refine run_make_sem M ok hr gd bnd tk I2 ru rz (by rw [← Paired.length rs2]; exact hl.1) (by rw [← Paired.length rz2]; exact hl.2) fun a dx ha' hdx hne => ?_
      -- the instance as a cell
      obtain ⟨sr3, f3, n3⟩ := sr2.loose (o := .own a) hdx
      have ha3 : upd H2 dx (.own a) a = none := by rw [upd_ne (Ne.symm hne)]; exact ha'
      obtain ⟨sr4, f4, n4⟩ := sr3.loose (o := .ins (g.cad mi.c) dx []) ha3
      obtain ⟨sr5, x5⟩ := sr4.push (c := .ins mi.c []) upd_same n4 ⟨f4, dx, [], upd_same, rfl, Reps.nil⟩
      have hself : RSs g F2 (as2 ++ [a]) (.cell μ2.length :: ss) (.ref a :: vs) := .cons ⟨a, by rw [← sr2.len, List.getElem?_append_right (Nat.le_refl _), Nat.sub_self]; rfl, rfl⟩ (rs2.mono x5)
      obtain ⟨b', e1, e2⟩ := bindG_ex hself (rz2.mono x5) (rss_vals (as := as2 ++ [a]) (rd F2)) hb
      refine ⟨b', e1, bindG_len e1, ?_⟩
      -- its __init__'s run
      cases hs : mi.fi.sem bs (μ2 ++ [.ins mi.c []]) with
      | none => rw [hs] at h2; cases h2
      | some q =>
        obtain ⟨r3, μ3⟩ := q
        rw [hs] at h2
        refine ⟨F2, as2 ++ [a], bs, _, r3, μ3, sr5, e2, hs, ?_⟩
        cases r3 with
        | error x =>
          cases h2
          exact fun F' as' cls d H' x6 sr6 rx => post F' as2 cls d H' (x2.trans ⟨x6.1, [], by rw [List.append_nil]⟩) (sr2.back (x5.trans x6) sr6) rx
        | ok s3 =>
          intro F' as' v H' x6 sr6 ra6
          cases s3 with
          | cell _ => cases h2
          | fr _ => cases h2
          | pot _ _ _ => cases h2
          | any => cases h2
          | val d =>
            cases d with
            | non =>
              unfold finM at h2
              simp only at h2
              split at h2
              · rename_i c fs hc
                split at h2
                · rename_i hcf
                  obtain ⟨rfl, hfs⟩ := hcf
                  cases h2
                  have hv : v = .non := by have z : Rep g F' .non v := ra6; unfold Rep at z; exact z
                  refine ⟨hv, ?_⟩
                  have hka : as'[μ2.length]? = some a := by
                    obtain ⟨_, l, rfl⟩ := x6
                    rw [← sr2.len, List.append_assoc, List.getElem?_append_right (Nat.le_refl _), Nat.sub_self]
                    rfl
                  obtain ⟨fa, dx', vs', h6, h7, h8⟩ := sr6.cells _ _ _ hka hc
                  have hrep : Rep g (upd F' a (.ins (g.cad mi.c) dx' ((fs.map (·.1)).zip vs'))) (.obj mi.c (fs.map (·.2))) (.ref a) := by
                    unfold Rep
                    refine ⟨a, dx', vs', rfl, ?_, ?_, h8.mono (same_upd fa)⟩
                    · rw [upd_same, hfl, hfs]
                    · rw [hfl, ← hfs, List.length_map]; exact h7
                  obtain ⟨sr7, x7⟩ := sr6.still hka h6 fa hrep
                  have x8 : Ext F2 as2 (upd F' a (.ins (g.cad mi.c) dx' ((fs.map (·.1)).zip vs'))) as' := (x5.trans x6).trans x7
                  have sr8 := sr2.back x8 sr7
                  have ht : (μ3.set μ2.length (.frz (.obj mi.c (fs.map (·.2))))).take μ2.length = μ3.take μ2.length := by rw [List.take_set_of_le (Nat.le_refl _)]
                  rw [ht] at sr8
                  exact post _ as2 _ H' (x2.trans ⟨x8.1, [], by rw [List.append_nil]⟩) sr8 hrep
                · cases h2
              · cases h2
            | _ => cases h2
    · cases h2
  · cases h2

/-! ### a method of an instance -/
/-- the receiver's class -/
def clsOf (m : Str) (μ : Sto) : S → Option Nat
  | .val (.obj c _) => some c
  | .cell k => match μ[k]? with
    | some (.ins c fs) => if (fs.lookup m).isNone then some c else none
    | _ => none
  | _ => none
def mMeth (m : Str) (mt : Nat → Option FnI) (n : Nat) (ks : List Str) (a : ME) (ms kms : List ME) : ME := fun ρ μ => andThen (a ρ μ) fun s0 μ0 => match clsOf m μ0 (rt s0) with
  | some c => (match mt c with
    | some fi => andThen (mArgs ms ρ μ0) fun ss μ1 => andThen (mArgs kms ρ μ1) fun ts μ2 => callF fi (n + 1) ks (rt s0 :: ss) ts μ2
    | none => none)
  | none => none
/-- what is known of the method there: for each class its def -/
structure MtK (gb : Bool) (g : G) (X : Cx) (mt : Nat → Option FnI) (m : Str) (k : Nat) (n : Nat) (ks : List Str) : Prop where
  ok : ∀ c fi, mt c = some fi → ∃ f, FnK gb g X fi k f n ks ∧ Cls X.K (g.cad c) ∧ Meth X.K (g.cad c) m f ∧ ¬ m ∈ g.fl c
theorem lookup_map_none {m : Str} : ∀ {fs : List (Str × D)} {vs : List V}, fs.lookup m = none → ((fs.map (·.1)).zip vs).lookup m = none
  | [], _, _ => rfl
  | (x, y) :: fs, [], _ => rfl
  | (x, y) :: fs, v :: vs, h => by
    cases e : (m == x) with
    | true => simp only [List.lookup, e] at h; cases h
    | false =>
      simp only [List.lookup, e] at h
      show List.lookup m ((x, v) :: (fs.map (·.1)).zip vs) = none
      simp only [List.lookup, e]
      exact lookup_map_none h
theorem lookup_zip_none {α : Type} {m : Str} : ∀ {l : List Str} {vs : List α}, ¬ m ∈ l → (l.zip vs).lookup m = none
  | [], _, _ => rfl
  | x :: l, [], _ => rfl
  | x :: l, v :: vs, h => by
    have e : (m == x) = false := beq_eq_false_iff_ne.mpr fun z => h (by rw [z]; exact List.mem_cons_self)
    show List.lookup m ((x, v) :: l.zip vs) = none
    simp only [List.lookup, e]
    exact lookup_zip_none fun z => h (List.mem_cons_of_mem _ z)
end
/-- a receiver where super isn't meant -/
def recvOk : Expr → Bool
  | .Call (.Name id _) [] [] _ => id != ("super" : Str)
  | _ => true
theorem recv_base {o : Expr} {m : Str} {env : PySem.Env} (h : recvOk o = true) : attributeBase o m env (eval o env) = eval o env := by
  cases o with
  | Call fn args kws pos =>
    cases fn with
    | Name id p =>
      cases args with
      | nil =>
        cases kws with
        | nil => exact abase_call h
        | cons _ _ => rfl
      | cons _ _ => rfl
    | _ => rfl
  | _ => rfl
theorem all_plain : ∀ {es : List Expr} {env : PySem.Env} {pos : Pos}, es.all notStar = true → (backTo pos (starEach es env)).all (fun x => !x.1) = true
  | [], _, _, _ => rfl
  | e :: es, env, pos, h => by
    rw [List.all_cons, Bool.and_eq_true] at h
    rw [starEach_cons h.1]
    show (true && (backTo pos (starEach es env)).all (fun x => !x.1)) = true
    rw [all_plain h.2]; rfl
theorem SAs.plain {g : G} {X : Cx} {W : WX} {es : List Expr} {ms : List ME} (h : SAs g X W es ms) : es.all notStar = true := by
  cases h with
  | nil => rfl
  | cons hn _ => exact hn
/-- the line and the number of arguments of a method's call -/
def methForm (apos pos : Pos) (es : List Expr) (kws : List Keyword) : Bool := (apos.endLine == pos.line) && decide (es.length + kws.length + (if kws.isEmpty then 0 else 1) < 30)
theorem meth_tree {X : Cx} {o : Expr} {m : Str} {apos pos : Pos} {es : List Expr} {kws : List Keyword} {ks : List Str} {A : Around} {E : Value → Shared → Prop} {s : Shared} {Q : Value → Shared → Prop} (hb : recvOk o = true) (hst : es.all notStar = true) (hks : kwNames kws = some ks) (hf : methForm apos pos es kws = true)
    (h : wpAny (model X.prog X.w) A (eval o X.env) (fun ov s1 => wpAny (model X.prog X.w) A (getMethod ov m (do return (← importBound o X.env).getD true)) (fun fx s2 => wpAny (model X.prog X.w) A (callWith pos fx.1 fx.2 (backTo pos (starEach es X.env)) (backToKw pos (keywordEach kws X.env))) Q E s2) E s1) E s) :
    wpAny (model X.prog X.w) A (eval (.Call (.Attribute o m apos) es kws pos) X.env) Q E s := by
  obtain ⟨a, b, c, d⟩ := kw_all (env := X.env) (pos := pos) hks
  unfold methForm at hf
  rw [Bool.and_eq_true] at hf
  rw [arm_eval_Call, recv_base hb]
  refine wpAny_bind (thn h fun ov s1 h1 => wpAny_bind (wpAny_standAt ?_))
  have hke : (backToKw pos (keywordEach kws X.env)).isEmpty = kws.isEmpty := by
    cases kws with
    | nil => rfl
    | cons k r => cases k; rfl
  have hform : methodCallForm (es.length + kws.length) (backTo pos (starEach es X.env)) (backToKw pos (keywordEach kws X.env)) = true := by
    unfold methodCallForm
    rw [all_plain hst, a, hke]
    exact hf.2
  have hpos : methodCallPos true o X.env apos pos = pure pos := by
    unfold methodCallPos
    rw [hf.1]
    rfl
  unfold methodCall
  rw [hform]
  refine wpAny_bind (wpAny_holding ?_)
  unfold calleeOf
  rw [if_pos rfl]
  exact thn h1 fun fx s2 h2 => wpAny_bind (wpAny_of_eq hpos h2)
section
variable {gb : Bool} {g : G} {X : Cx} {W : WX} {k : Nat} {ks : List Str} {n : Nat}
theorem se_meth {mt : Nat → Option FnI} {a : Expr} {ma : ME} {m : Str} {apos pos : Pos} {es : List Expr} {kws : List Keyword} {ms kms : List ME} (hM : MtK gb g X mt m k (n + 1) ks) (hr : Room k X.A) (gd : gb = true → X.A.guards = some []) (tk : Takes X W)
    (hb : recvOk a = true) (hf : methForm apos pos es kws = true) (hks : kwNames kws = some ks) (hself : SE g X W a ma) (ha : SAs g X W es ms) (hkw : SK g X W kws (mArgs kms)) :
    SE g X W (.Call (.Attribute a m apos) es kws pos) (mMeth m mt n ks ma ms kms) := by
  refine ⟨fun F as ρ μ σ H Q r μ' h sr er post pins s I => ?_⟩
  refine meth_tree hb ha.plain hks hf ?_
  have key : wpE X a σ H fun x H1 => ∃ p C dx fs f, x = .ref p ∧ H1 p = some (.ins C dx fs) ∧ Cls X.K C ∧ Meth X.K C m f ∧ fs.lookup m = none ∧
      ∀ (st : Shared), Inv X pins σ H1 st → wpAny (model X.prog X.w) X.A (callWith pos (.ref f) [.ref p] (backTo pos (starEach es X.env)) (backToKw pos (keywordEach kws X.env))) (EP X pins σ Q) X.xe st := by
    refine hself.then_ (show andThen _ _ = some (r, μ') from h) sr er (fun x e => by subst e; exact post) fun s0 μ0 F0 as0 v0 H0 h0 x0 sr0 er0 ra0 => ?_
    obtain ⟨F0', x0', sr0', rs0⟩ := root_ok sr0 ra0
    have er0' := er0.mono x0'
    split at h0
    · rename_i c hc
      split at h0
      · rename_i fi hfi
        obtain ⟨f, hF, cl, me, hno⟩ := hM.ok c fi hfi
        -- where it stands
        have hat : ∃ p dx fs, v0 = .ref p ∧ H0 p = some (.ins (g.cad c) dx fs) ∧ fs.lookup m = none ∧ True := by
          cases s0 with
          | fr ds => cases hc
          | pot j is ds => cases hc
          | any => cases hc
          | val d =>
            cases d with
            | obj c' fs =>
              cases hc
              obtain ⟨p, dx, vs, rfl, e2, e3, e4⟩ := vr_obj sr0' (.inr (show Rep g F0' (.obj c fs) v0 from rs0))
              exact ⟨p, dx, _, rfl, e2, lookup_zip_none hno, trivial⟩
            | _ => cases hc
          | cell j =>
            obtain ⟨p, h2, rfl⟩ := (show ∃ p, as0[j]? = some p ∧ v0 = .ref p from rs0)
            unfold clsOf at hc
            simp only [rt] at hc
            cases q : μ0[j]? with
            | none => rw [q] at hc; cases hc
            | some cc =>
              rw [q] at hc
              cases cc with
              | ins c' fs =>
                simp only at hc
                split at hc
                · rename_i hn
                  cases hc
                  obtain ⟨_, dx, vs, h3, h4, h5⟩ := sr0'.cells j p _ h2 q
                  exact ⟨p, dx, _, rfl, h3, lookup_map_none (Option.isNone_iff_eq_none.mp hn), trivial⟩
                · cases hc
              | _ => cases hc
        obtain ⟨p, dx, fs, rfl, e2, e3, _⟩ := hat
        refine ⟨p, _, dx, fs, f, rfl, e2, cl, me, e3, fun st I0 => ?_⟩
        refine callW (first := [.ref p]) (f := fun ss ts μ2 => callF fi (n + 1) ks (rt s0 :: ss) ts μ2) I0 me.kp hks ha hkw h0 sr0' er0' (fun x e => by subst e; exact PErr.ext (x0.trans x0') post) fun ss ts μ2 F2 as2 vs zs H2 h2 x2 sr2 er2 rs2 rz2 st us ws I2 ru rz => ?_
        exact callF_run (vs := .ref p :: vs) hF hr gd tk h2 sr2 (.cons (rs0.mono x2) rs2) rz2 (PostE.ext ((x0.trans x0').trans x2) post) st (.ref p :: us) ws I2 (.cons rfl ru) rz
      · cases h0
    · cases h0
  refine thn (key pins s I) fun ov s1 hq => ?_
  obtain ⟨x, H1, I1, rx, p, C, dx, fs, f, ex, e2, cl, me, e3, q⟩ := hq
  subst ex
  obtain rfl : ov = Value.ref p := rx
  exact getmeth_ok I1 e2 cl me e3 (q s1 I1)
end
end Sz

set_option Elab.async false
set_option linter.all false
set_option maxRecDepth 100000
set_option maxHeartbeats 4000000
/-! Sz G: statements. -/
namespace Sz
open PySem PySem.Spec L2

def PostS (g : G) (W : WX) (F : Hp) (as : List Addr) (D : Ends) : Fl → En → Sto → Prop
  | .nx, ρ', μ' => ∀ F' as' σ' H', Ext F as F' as' → SR g F' as' μ' H' → ER g F' as' ρ' σ' → D.nx σ' H'
  | .bk, ρ', μ' => ∀ F' as' σ' H', Ext F as F' as' → SR g F' as' μ' H' → ER g F' as' ρ' σ' → D.bk σ' H'
  | .ct, ρ', μ' => ∀ F' as' σ' H', Ext F as F' as' → SR g F' as' μ' H' → ER g F' as' ρ' σ' → D.ct σ' H'
  | .rt s, ρ', μ' => ∀ F' as' v H', Ext F as F' as' → SR g F' as' μ' H' → RA g F' as' H' s v → D.rt v H'
  | .ex x, ρ', μ' => ∀ F' as' σ' cls d H', Ext F as F' as' → SR g F' as' μ' H' → ER g F' as' ρ' σ' → RX g F' H' x cls d → W cls d σ' H'
structure SS (g : G) (X : Cx) (W : WX) (st : Stmt) (m : MS) : Prop where
  run : ∀ (F : Hp) (as : List Addr) (ρ : En) (μ : Sto) (σ : L2.St) (H : Hp) (D : Ends) (fl : Fl) (ρ' : En) (μ' : Sto), m ρ μ = some (fl, ρ', μ') → SR g F as μ H → ER g F as ρ σ → PostS g W F as D fl ρ' μ' → wpS X st D σ H
structure SB (g : G) (X : Cx) (W : WX) (sts : List Stmt) (m : MS) : Prop where
  run : ∀ (F : Hp) (as : List Addr) (ρ : En) (μ : Sto) (σ : L2.St) (H : Hp) (D : Ends) (fl : Fl) (ρ' : En) (μ' : Sto), m ρ μ = some (fl, ρ', μ') → SR g F as μ H → ER g F as ρ σ → PostS g W F as D fl ρ' μ' → wpB X sts D σ H
section
variable {g : G} {X : Cx} {W : WX} {F F1 : Hp} {as as1 : List Addr} {D : Ends} {fl : Fl} {ρ : En} {μ : Sto} {σ : L2.St}
theorem PostS.ext (x : Ext F as F1 as1) (h : PostS g W F as D fl ρ μ) : PostS g W F1 as1 D fl ρ μ := by
  cases fl with
  | nx => exact fun F' as' σ' H' e => h F' as' σ' H' (x.trans e)
  | bk => exact fun F' as' σ' H' e => h F' as' σ' H' (x.trans e)
  | ct => exact fun F' as' σ' H' e => h F' as' σ' H' (x.trans e)
  | rt s => exact fun F' as' v H' e => h F' as' v H' (x.trans e)
  | ex y => exact fun F' as' σ' cls d H' e => h F' as' σ' cls d H' (x.trans e)
theorem PostS.err {x : Ex} (er : ER g F as ρ σ) (h : PostS g W F as D (.ex x) ρ μ) : PErr g W F as σ x μ := fun F' as' cls d H' e sr rx => h F' as' σ cls d H' e sr (er.mono e) rx
end

/-! ### blocks -/
def sNil : MS := fun ρ μ => some (.nx, ρ, μ)
def sSeq (a b : MS) : MS := fun ρ μ => match a ρ μ with
  | some (.nx, ρ1, μ1) => b ρ1 μ1
  | r => r
section
variable {g : G} {X : Cx} {W : WX} {st : Stmt} {sts : List Stmt} {a b : MS} {pos : Pos}
theorem sb_nil : SB g X W [] sNil := by
  refine ⟨fun F as ρ μ σ H D fl ρ' μ' h sr er post => wB pss_nil ?_⟩
  cases h
  exact post F as σ H .refl sr er
theorem sb_cons (h1 : SS g X W st a) (h2 : SB g X W sts b) : SB g X W (st :: sts) (sSeq a b) := by
  refine ⟨fun F as ρ μ σ H D fl ρ' μ' h sr er post => wB (pss_cons ps_wp pss_wp) ?_⟩
  show wpS X st { D with nx := wpB X sts D } σ H
  unfold sSeq at h
  split at h
  · rename_i ρ1 μ1 h3
    exact h1.run F as ρ μ σ H _ .nx ρ1 μ1 h3 sr er fun F' as' σ' H' e sr' er' => h2.run F' as' ρ1 μ1 σ' H' D fl ρ' μ' h sr' er' (post.ext e)
  · rename_i hne
    refine h1.run F as ρ μ σ H _ fl ρ' μ' h sr er ?_
    cases fl with
    | nx => exact absurd h (hne _ _)
    | bk => exact post
    | ct => exact post
    | rt s => exact post
    | ex x => exact post
def sPass : MS := sNil
def sBreak : MS := fun ρ μ => some (.bk, ρ, μ)
def sCont : MS := fun ρ μ => some (.ct, ρ, μ)
theorem ss_pass : SS g X W (.Pass pos) sPass := by
  refine ⟨fun F as ρ μ σ H D fl ρ' μ' h sr er post => wS ps_pass ?_⟩
  cases h
  exact post F as σ H .refl sr er
theorem ss_break : SS g X W (.Break pos) sBreak := by
  refine ⟨fun F as ρ μ σ H D fl ρ' μ' h sr er post => wS ps_break ?_⟩
  cases h
  exact post F as σ H .refl sr er
theorem ss_cont : SS g X W (.Continue pos) sCont := by
  refine ⟨fun F as ρ μ σ H D fl ρ' μ' h sr er post => wS ps_continue ?_⟩
  cases h
  exact post F as σ H .refl sr er
end

/-- an expression, then what follows -/
def exThen {α : Type} (r : Option (Except Ex α × Sto)) (ρ : En) (f : α → Sto → Option (Fl × En × Sto)) : Option (Fl × En × Sto) := match r with
  | none => none
  | some (.error x, μ) => some (.ex x, ρ, μ)
  | some (.ok s, μ) => f s μ
section
variable {g : G} {X : Cx} {W : WX} {e : Expr} {m : ME} {F : Hp} {as : List Addr} {ρ ρ' : En} {μ μ' : Sto} {σ : L2.St} {H : Hp} {D : Ends} {fl : Fl}
theorem exThen_some {α : Type} {r : Option (Except Ex α × Sto)} {f : α → Sto → Option (Fl × En × Sto)} {q : Fl × En × Sto} (h : exThen r ρ f = some q) :
    (∃ x, r = some (.error x, q.2.2) ∧ q.1 = .ex x ∧ q.2.1 = ρ) ∨ ∃ s μ, r = some (.ok s, μ) ∧ f s μ = some q := by
  unfold exThen at h
  match r, h with
  | none, h => cases h
  | some (.error x, μ), h => cases h; exact .inl ⟨x, rfl, rfl, rfl⟩
  | some (.ok s, μ), h => exact .inr ⟨s, μ, rfl, h⟩
theorem SE.st {Q : VK} {f : S → Sto → Option (Fl × En × Sto)} (he : SE g X W e m) (h : exThen (m ρ μ) ρ f = some (fl, ρ', μ')) (sr : SR g F as μ H) (er : ER g F as ρ σ) (post : PostS g W F as D fl ρ' μ')
    (k : ∀ s μ1 F1 as1 v H1, f s μ1 = some (fl, ρ', μ') → Ext F as F1 as1 → SR g F1 as1 μ1 H1 → ER g F1 as1 ρ σ → RA g F1 as1 H1 s v → Q v H1) : wpE X e σ H Q := by
  rcases exThen_some h with ⟨x, h1, h2, h3⟩ | ⟨s, μ1, h1, h2⟩
  · dsimp only at h1 h2 h3
    subst h2 h3
    exact he.run F as ρ' μ σ H Q (.error x) μ' h1 sr er (post.err er)
  · exact he.run F as ρ μ σ H Q (.ok s) μ1 h1 sr er fun F' as' v H' e' r' q => k s μ1 F' as' v H' h2 e' r' (er.mono e') q
theorem STe.st {m : MT} {Q : Bool → Hp → Prop} {f : Bool → Sto → Option (Fl × En × Sto)} (he : STe g X W e m) (h : exThen (m ρ μ) ρ f = some (fl, ρ', μ')) (sr : SR g F as μ H) (er : ER g F as ρ σ) (post : PostS g W F as D fl ρ' μ')
    (k : ∀ b μ1 F1 as1 H1, f b μ1 = some (fl, ρ', μ') → Ext F as F1 as1 → SR g F1 as1 μ1 H1 → ER g F1 as1 ρ σ → Q b H1) : wpT X e σ H Q := by
  rcases exThen_some h with ⟨x, h1, h2, h3⟩ | ⟨s, μ1, h1, h2⟩
  · dsimp only at h1 h2 h3
    subst h2 h3
    exact he.run F as ρ' μ σ H Q (.error x) μ' h1 sr er (post.err er)
  · exact he.run F as ρ μ σ H Q (.ok s) μ1 h1 sr er fun F' as' H' e' r' => k s μ1 F' as' H' h2 e' r' (er.mono e')
end

/-! ### return, if, an expression alone -/
def sRet (m : ME) : MS := fun ρ μ => exThen (m ρ μ) ρ fun s μ1 => some (.rt s, ρ, μ1)
def sRetN : MS := fun ρ μ => some (.rt (.val .non), ρ, μ)
def sIf (t : MT) (a b : MS) : MS := fun ρ μ => exThen (t ρ μ) ρ fun c μ1 => if c then a ρ μ1 else b ρ μ1
def sExpr (m : ME) : MS := fun ρ μ => exThen (m ρ μ) ρ fun _ μ1 => some (.nx, ρ, μ1)
def notComp : Expr → Bool
  | .ListComp _ _ _ _ => false
  | .SetComp _ _ _ _ => false
  | .DictComp _ _ _ _ _ => false
  | _ => true
theorem swaps_no {e : Expr} {t : Option Expr} {l : Nat} {env : PySem.Env} (h : notComp e = true) : swapsWith e t l env = pure false := by
  cases e <;> first | rfl | (exact absurd (show false = true from h) Bool.false_ne_true)
section
variable {g : G} {X : Cx} {W : WX} {e c : Expr} {m : ME} {t : MT} {a b : List Stmt} {ma mb : MS} {pos : Pos}
theorem ss_ret (he : SE g X W e m) : SS g X W (.Return (some e) pos) (sRet m) := by
  refine ⟨fun F as ρ μ σ H D fl ρ' μ' h sr er post => wS (ps_ret pe_wp) ?_⟩
  refine he.st h sr er post fun s μ1 F1 as1 v H1 h1 x1 sr1 er1 ra1 => ?_
  cases h1
  exact post F1 as1 v H1 x1 sr1 ra1
theorem ss_retN : SS g X W (.Return none pos) sRetN := by
  refine ⟨fun F as ρ μ σ H D fl ρ' μ' h sr er post => wS ps_retN ?_⟩
  cases h
  exact post F as _ H .refl sr ra_non
theorem ss_if (hc : STe g X W c t) (ha : SB g X W a ma) (hb : SB g X W b mb) : SS g X W (.If c a b pos) (sIf t ma mb) := by
  refine ⟨fun F as ρ μ σ H D fl ρ' μ' h sr er post => wS (ps_if pt_wp pss_wp pss_wp) ?_⟩
  refine hc.st h sr er post fun k μ1 F1 as1 H1 h1 x1 sr1 er1 => ?_
  cases k with
  | true => rw [if_pos rfl] at h1 ⊢; exact ha.run F1 as1 ρ μ1 σ H1 D fl ρ' μ' h1 sr1 er1 (post.ext x1)
  | false => rw [if_neg Bool.false_ne_true] at h1 ⊢; exact hb.run F1 as1 ρ μ1 σ H1 D fl ρ' μ' h1 sr1 er1 (post.ext x1)
theorem ss_expr (he : SE g X W e m) (hs : notComp e = true) : SS g X W (.Expr e pos) (sExpr m) := by
  refine ⟨fun F as ρ μ σ H D fl ρ' μ' h sr er post => wS (ps_expr pe_wp (swaps_no hs)) ?_⟩
  refine he.st h sr er post fun s μ1 F1 as1 v H1 h1 x1 sr1 er1 ra1 => ?_
  cases h1
  exact post F1 as1 σ H1 x1 sr1 er1
end

/-! ### targets -/
/-- a target's code: what is stored, the slots, the store -/
abbrev MG := S → En → Sto → Option (En × Sto)
abbrev wpG (X : Cx) (tg : Expr) : TG := fun v σ H Q => ∀ (pins : List (Addr × Obj)) (s : Shared) (u : Value), Inv X pins σ H s → RelV v u → wpAny (model X.prog X.w) X.A (assign tg X.env u) (fun _ s' => ∃ σ' H', Inv X pins σ' H' s' ∧ Q σ' H') X.xe s
theorem pg_wp {X : Cx} {tg : Expr} : PG X tg (wpG X tg) := ⟨fun pins s σ H v u Q I r h => h pins s u I r⟩
/-- sl: the slots that it may store to -/
structure SG (g : G) (X : Cx) (tg : Expr) (sl : List Nat) (m : MG) : Prop where
  run : ∀ (F : Hp) (as : List Addr) (ρ : En) (μ : Sto) (σ : L2.St) (H : Hp) (s : S) (v : V) (Q : L2.St → Hp → Prop) (ρ' : En) (μ' : Sto), m s ρ μ = some (ρ', μ') → SR g F as μ H → ER g F as ρ σ → RA g F as H s v →
    (∀ F' as' σ' H', Ext F as F' as' → SR g F' as' μ' H' → ER g F' as' ρ' σ' → (∀ ws : List Nat, (∀ i ∈ sl, i ∈ ws) → wipe σ' ws = wipe σ ws) → Q σ' H') → wpG X tg v σ H Q
theorem wipe_in {σ : L2.St} {i : Nat} : ∀ {vs : List Nat}, i ∈ vs → (wipe σ vs)[i]? = if i < σ.length then some none else none
  | [], h => by cases h
  | v :: vs, h => by
    unfold wipe
    by_cases e : v = i
    · subst e
      by_cases hl : v < σ.length
      · rw [if_pos hl, List.getElem?_set_self (by rw [wipe_length]; exact hl)]
      · rw [if_neg hl, List.getElem?_eq_none (by rw [List.length_set, wipe_length]; omega)]
    · rw [List.getElem?_set_ne e]
      exact wipe_in (by
        rcases List.mem_cons.mp h with z | z
        · exact absurd z.symm e
        · exact z)
theorem wipe_set {σ : L2.St} {i : Nat} {x : Option V} {ws : List Nat} (h : i ∈ ws) : wipe (σ.set i x) ws = wipe σ ws := by
  apply List.ext_getElem?
  intro j
  by_cases hj : j ∈ ws
  · rw [wipe_in hj, wipe_in hj, List.length_set]
  · rw [wipe_out hj, wipe_out hj]
    exact List.getElem?_set_ne (show i ≠ j from fun z => hj (by rw [← z]; exact h))
/-- a thing made its owner's: a new list becomes a cell, if the name is one that is changed -/
def own (fl : Bool) (s : S) (μ : Sto) : S × Sto := match s, fl with
  | .fr ds, true => (.cell μ.length, μ ++ [.lst ds])
  | .pot none is ds, true => (.cell (μ ++ [C.lst is]).length, μ ++ [C.lst is] ++ [C.pot μ.length ds])
  | s, _ => (rt s, μ)
theorem own_ok {g : G} {F : Hp} {as : List Addr} {μ : Sto} {H : Hp} {s : S} {v : V} (fl : Bool) (sr : SR g F as μ H) (h : RA g F as H s v) : ∃ F' as', Ext F as F' as' ∧ SR g F' as' (own fl s μ).2 H ∧ RS g F' as' (own fl s μ).1 v := by
  have plain : (own fl s μ = (rt s, μ)) → ∃ F' as', Ext F as F' as' ∧ SR g F' as' (own fl s μ).2 H ∧ RS g F' as' (own fl s μ).1 v := fun e => by
    obtain ⟨F', x, r, q⟩ := root_ok sr h
    rw [e]
    exact ⟨F', as, x, r, q⟩
  cases s with
  | val d => exact plain rfl
  | cell k => exact plain rfl
  | fr ds =>
    cases fl with
    | false => exact plain rfl
    | true =>
      obtain ⟨p, vs, e1, e2, e3, e4, e5⟩ := (show ∃ p vs, v = .ref p ∧ H p = some (.lst vs) ∧ F p = none ∧ p ∉ as ∧ Reps g F ds vs from h)
      obtain ⟨r, x⟩ := sr.push (c := .lst ds) e2 e4 ⟨e3, vs, e2, e5⟩
      exact ⟨F, as ++ [p], x, r, p, by rw [← sr.len, List.getElem?_append_right (Nat.le_refl _), Nat.sub_self]; rfl, e1⟩
  | any => exact plain rfl
  | pot j is ds =>
    cases j with
    | some j => exact plain rfl
    | none =>
      cases fl with
      | false => exact plain rfl
      | true =>
        obtain ⟨p, q, vs, us, e1, e2, e3, e4, e5, e6, e7, e8, e9, e10⟩ := (show ∃ p q vs us, v = .ref p ∧ H p = some (.lst (.ref q :: us)) ∧ F p = none ∧ p ∉ as ∧ H q = some (.lst vs) ∧ F q = none ∧ q ∉ as ∧ p ≠ q ∧ Reps g F is vs ∧ Reps g F ds us from h)
        obtain ⟨r1, x1⟩ := sr.push (c := .lst is) e5 e7 ⟨e6, vs, e5, e9⟩
        have e4' : p ∉ as ++ [q] := fun hm => (List.mem_append.mp hm).elim e4 (fun z => e8 (List.mem_singleton.mp z))
        obtain ⟨r2, x2⟩ := r1.push (c := .pot μ.length ds) e2 e4' ⟨e3, q, us, by rw [← sr.len, List.getElem?_append_right (Nat.le_refl _), Nat.sub_self]; rfl, e2, e10⟩
        exact ⟨F, as ++ [q] ++ [p], x1.trans x2, r2, p, by rw [← r1.len, List.getElem?_append_right (Nat.le_refl _), Nat.sub_self]; rfl, e1⟩
def gNm (i : Nat) (fl : Bool) : MG := fun s ρ μ => some (ρ.set i (some (own fl s μ).1), (own fl s μ).2)
def gVals : List MG → List D → En → Sto → Option (En × Sto)
  | [], [], ρ, μ => some (ρ, μ)
  | t :: ts, d :: ds, ρ, μ => match t (.val d) ρ μ with
    | some (ρ1, μ1) => gVals ts ds ρ1 μ1
    | none => none
  | _, _, _, _ => none
def gTu (ts : List MG) : MG := fun s ρ μ => match vw μ s with
  | some (.tup ds) => gVals ts ds ρ μ
  | some (.lst ds) => gVals ts ds ρ μ
  | _ => none
/-- several targets -/
inductive SGs (g : G) (X : Cx) : List Expr → List Nat → List MG → Prop
  | nil : SGs g X [] [] []
  | cons {e : Expr} {es : List Expr} {sl sl' : List Nat} {t : MG} {ts : List MG} (hs : notStar e = true) (h : SG g X e sl t) (r : SGs g X es sl' ts) : SGs g X (e :: es) (sl ++ sl') (t :: ts)
theorem assignEach_cons {e : Expr} {es : List Expr} {env : PySem.Env} (h : notStar e = true) : assignEach (e :: es) env = (false, assign e env) :: assignEach es env := by
  cases e <;> first | rfl | (exact absurd (show false = true from h) Bool.false_ne_true)
section
variable {g : G} {X : Cx} {pos : Pos}
theorem sg_name {i : Nat} {x : Str} {fl : Bool} (hN : X.N.Nodup) (hi : X.N[i]? = some x) (hx : Loc X.env.scope x) (hf : X.fn x = true ∨ X.env.scope.names.lookup x = some .local) : SG g X (.Name x pos) [i] (gNm i fl) := by
  refine ⟨fun F as ρ μ σ H s v Q ρ' μ' h sr er ra k pins st u I ru => ?_⟩
  cases h
  obtain ⟨F', as', x', sr', rs⟩ := own_ok fl sr ra
  exact (pg_name hN hi hx hf).run pins st σ H v u Q I ru (k F' as' _ H x' sr' ((er.mono x').set rs) fun ws hw => wipe_set (hw i List.mem_cons_self))
abbrev wpGs (X : Cx) (ts : List Expr) : TGs := fun vs σ H Q => ∀ (pins : List (Addr × Obj)) (s : Shared) (us : List Value), Inv X pins σ H s → Vals vs us → wpAny (model X.prog X.w) X.A (assignInOrder ((assignEach ts X.env).map (·.2)) us) (fun _ s' => ∃ σ' H', Inv X pins σ' H' s' ∧ Q σ' H') X.xe s
theorem pgs_wp {ts : List Expr} : PGs X ts (wpGs X ts) := ⟨fun pins s σ H vs us Q I r h => h pins s us I r⟩
theorem sgs_run {es : List Expr} {sl : List Nat} {ts : List MG} (h : SGs g X es sl ts) : ∀ (F : Hp) (as : List Addr) (ρ : En) (μ : Sto) (σ : L2.St) (H : Hp) (ds : List D) (vs : List V) (Q : L2.St → Hp → Prop) (ρ' : En) (μ' : Sto), gVals ts ds ρ μ = some (ρ', μ') → SR g F as μ H → ER g F as ρ σ → Reps g F ds vs →
    (∀ F' as' σ' H', Ext F as F' as' → SR g F' as' μ' H' → ER g F' as' ρ' σ' → (∀ ws : List Nat, (∀ i ∈ sl, i ∈ ws) → wipe σ' ws = wipe σ ws) → Q σ' H') → wpGs X es vs σ H Q := by
  induction h with
  | nil =>
    intro F as ρ μ σ H ds vs Q ρ' μ' h sr er r k
    cases ds with
    | cons _ _ => cases h
    | nil =>
      cases h
      rw [Reps.nil_iff.mp r]
      exact fun pins s us I ru => pgs_nil.run pins s σ H [] us Q I ru ⟨rfl, k F as σ H .refl sr er fun _ _ => rfl⟩
  | @cons e es sl sl' t ts hs he hr ih =>
    intro F as ρ μ σ H ds vs Q ρ' μ' h sr er r k
    cases ds with
    | nil => cases h
    | cons d ds =>
      unfold gVals at h
      split at h
      · rename_i ρ1 μ1 h1
        obtain ⟨v, r', rfl, r1, r2⟩ := Reps.cons_iff.mp r
        refine fun pins s us I ru => (pgs_cons (pg_wp (X := X) (tg := e)) (pgs_wp (X := X) (ts := es)) (by rw [assignEach_cons hs]; rfl)).run pins s σ H (v :: r') us Q I ru ⟨v, r', rfl, ?_⟩
        exact he.run F as ρ μ σ H (.val d) v _ ρ1 μ1 h1 sr er r1 fun F1 as1 σ1 H1 x1 sr1 er1 w1 => ih F1 as1 ρ1 μ1 σ1 H1 ds r' Q ρ' μ' h sr1 er1 (r2.mono x1.1) fun F' as' σ' H' x' sr' er' w' => k F' as' σ' H' (x1.trans x') sr' er' fun ws hw => (w' ws fun i hi => hw i (List.mem_append_right _ hi)).trans (w1 ws fun i hi => hw i (List.mem_append_left _ hi))
      · cases h
theorem sgs_each {es : List Expr} {sl : List Nat} {ts : List MG} (h : SGs g X es sl ts) : (assignEach es X.env).findIdx? (·.1) = none ∧ (assignEach es X.env).length = ts.length := by
  induction h with
  | nil => exact ⟨rfl, rfl⟩
  | cons hs _ _ ih =>
    rw [assignEach_cons hs]
    refine ⟨?_, by rw [List.length_cons, List.length_cons, ih.2]⟩
    rw [List.findIdx?_cons]
    simp only [Bool.false_eq_true, if_false, ih.1, Option.map_none]
theorem gVals_len : ∀ {ts : List MG} {ds : List D} {ρ : En} {μ : Sto} {q : En × Sto}, gVals ts ds ρ μ = some q → ds.length = ts.length
  | [], [], _, _, _, _ => rfl
  | [], _ :: _, _, _, _, h => by cases h
  | _ :: _, [], _, _, _, h => by cases h
  | t :: ts, d :: ds, ρ, μ, q, h => by
    unfold gVals at h
    split at h
    · rw [List.length_cons, List.length_cons, gVals_len h]
    · cases h
theorem sg_tup {es : List Expr} {sl : List Nat} {ts : List MG} {k : Nat} (hg : g.K = X.K) (hc : X.calm = true) (hs : SGs g X es sl ts) : SG g X (.Tuple es k pos) sl (gTu ts) := by
  refine ⟨fun F as ρ μ σ H s v Q ρ' μ' h sr er ra kk pins st u I ru => ?_⟩
  obtain ⟨h1, h2⟩ := sgs_each hs
  unfold gTu at h
  split at h
  · rename_i ds hv
    obtain ⟨a, vs, rfl, e1, e2⟩ := vr_tup sr (view_ra sr ra hv)
    exact (pg_tup hc (pgs_wp (X := X) (ts := es)) h2 h1).run pins st σ H _ u Q I ru ⟨a, vs, rfl, hg ▸ e1, by rw [e2.length]; exact gVals_len h, sgs_run hs F as ρ μ σ H ds vs Q ρ' μ' h sr er e2 kk⟩
  · rename_i ds hv
    obtain ⟨a, vs, rfl, e1, e2⟩ := vr_lst sr (view_ra sr ra hv)
    exact (pg_lst hc (pgs_wp (X := X) (ts := es)) h2 h1).run pins st σ H _ u Q I ru ⟨a, vs, rfl, SqL.of e1, by rw [e2.length]; exact gVals_len h, sgs_run hs F as ρ μ σ H ds vs Q ρ' μ' h sr er e2 kk⟩
  · cases h
end

/-! ### assignments -/
def sAsg (t : MG) (m : ME) : MS := fun ρ μ => exThen (m ρ μ) ρ fun s μ1 => match t s ρ μ1 with
  | some (ρ2, μ2) => some (.nx, ρ2, μ2)
  | none => none
section
variable {g : G} {X : Cx} {W : WX} {e : Expr} {m : ME} {pos pos' : Pos}
theorem ss_set {i : Nat} {x : Str} {fl : Bool} (hN : X.N.Nodup) (hi : X.N[i]? = some x) (hx : Loc X.env.scope x) (hf : X.fn x = true ∨ X.env.scope.names.lookup x = some .local) (hs : swapsWith e (some (.Name x pos')) pos.line X.env = pure false) (he : SE g X W e m) :
    SS g X W (.Assign [.Name x pos'] e pos) (sAsg (gNm i fl) m) := by
  refine ⟨fun F as ρ μ σ H D fl' ρ' μ' h sr er post => wS (ps_set hN hi hx pe_wp hs hf) ?_⟩
  refine he.st h sr er post fun s μ1 F1 as1 v H1 h1 x1 sr1 er1 ra1 => ?_
  obtain ⟨F2, as2, x2, sr2, rs2⟩ := own_ok fl sr1 ra1
  cases h1
  exact post F2 as2 _ H1 (x1.trans x2) sr2 ((er1.mono x2).set rs2)
theorem ss_asgT {tg : Expr} {sl : List Nat} {t : MG} (ht : SG g X tg sl t) (hs : swapsWithSole [tg] e pos.line X.env = pure false) (hw : swappedStores [tg] e X.env = pure none) (hst : notStar tg = true) (he : SE g X W e m) :
    SS g X W (.Assign [tg] e pos) (sAsg t m) := by
  refine ⟨fun F as ρ μ σ H D fl' ρ' μ' h sr er post => wS (ps_asg pe_wp pg_wp hs hw (by rw [assignEach_cons hst]; rfl)) ?_⟩
  refine he.st h sr er post fun s μ1 F1 as1 v H1 h1 x1 sr1 er1 ra1 => ?_
  split at h1
  · rename_i ρ2 μ2 h2
    cases h1
    exact ht.run F1 as1 ρ μ1 σ H1 s v _ ρ' μ' h2 sr1 er1 ra1 fun F' as' σ' H' x' sr' er' _ => post F' as' σ' H' (x1.trans x') sr' er'
  · cases h1
end
/-- several values, each made its name's own -/
def mOwns : List (Bool × ME) → MA
  | [] => fun _ μ => some (.ok [], μ)
  | (fl, m) :: ms => fun ρ μ => andThen (m ρ μ) fun s μ1 => andThen (mOwns ms ρ (own fl s μ1).2) fun ss μ2 => some (.ok ((own fl s μ1).1 :: ss), μ2)
section
variable {g : G} {X : Cx} {W : WX} {e : Expr} {es : List Expr} {m : ME} {fl : Bool} {ms : List (Bool × ME)}
theorem so_nil : SA g X W [] (mOwns []) := sa_nil
theorem so_cons (hn : notStar e = true) (h1 : SE g X W e m) (h2 : SA g X W es (mOwns ms)) : SA g X W (e :: es) (mOwns ((fl, m) :: ms)) := by
  refine ⟨fun F as ρ μ σ H Q r μ' h sr er post => wA (pa_cons pe_wp pa_wp (starEach_cons hn)) ?_⟩
  refine h1.then_ (show andThen _ _ = some (r, μ') from h) sr er (fun x e => by subst e; exact post) fun s1 μ1 F1 as1 v1 H1 h3 x1 sr1 er1 ra1 => ?_
  obtain ⟨F1', as1', x1', sr1', rs1⟩ := own_ok fl sr1 ra1
  refine h2.then_ h3 sr1' (er1.mono x1') (fun x e => by subst e; exact PErr.ext (x1.trans x1') post) fun ss μ2 F2 as2 vs H2 h4 x2 sr2 er2 rs2 => ?_
  cases h4
  exact post F2 as2 _ H2 ((x1.trans x1').trans x2) sr2 (.cons (rs1.mono x2) rs2)
end
def sPar2 (i j : Nat) (ms : List (Bool × ME)) : MS := fun ρ μ => exThen (mOwns ms ρ μ) ρ fun ss μ1 => match ss with
  | [s, t] => some (.nx, (ρ.set i (some s)).set j (some t), μ1)
  | _ => none
def sPar3 (i j l : Nat) (ms : List (Bool × ME)) : MS := fun ρ μ => exThen (mOwns ms ρ μ) ρ fun ss μ1 => match ss with
  | [s, t, u] => some (.nx, ((ρ.set i (some s)).set j (some t)).set l (some u), μ1)
  | _ => none
section
variable {g : G} {X : Cx} {W : WX} {F : Hp} {as : List Addr} {ρ ρ' : En} {μ μ' : Sto} {σ : L2.St} {H : Hp} {D : Ends} {fl : Fl}
theorem SA.st {es : List Expr} {m : MA} {Q : List V → Hp → Prop} {f : List S → Sto → Option (Fl × En × Sto)} (he : SA g X W es m) (h : exThen (m ρ μ) ρ f = some (fl, ρ', μ')) (sr : SR g F as μ H) (er : ER g F as ρ σ) (post : PostS g W F as D fl ρ' μ')
    (k : ∀ ss μ1 F1 as1 vs H1, f ss μ1 = some (fl, ρ', μ') → Ext F as F1 as1 → SR g F1 as1 μ1 H1 → ER g F1 as1 ρ σ → RSs g F1 as1 ss vs → Q vs H1) : wpA X es σ H Q := by
  rcases exThen_some h with ⟨x, h1, h2, h3⟩ | ⟨s, μ1, h1, h2⟩
  · dsimp only at h1 h2 h3
    subst h2 h3
    exact he.run F as ρ' μ σ H Q (.error x) μ' h1 sr er (post.err er)
  · exact he.run F as ρ μ σ H Q (.ok s) μ1 h1 sr er fun F' as' v H' e' r' q => k s μ1 F' as' v H' h2 e' r' (er.mono e') q
end
section
variable {g : G} {X : Cx} {W : WX}
theorem ss_par2 {i j : Nat} {x y : Str} {a b : Expr} {ms : List (Bool × ME)} {px py pt pos : Pos} {kt k2 pt2} (hc : X.calm = true) (hN : X.N.Nodup) (hi : X.N[i]? = some x) (hj : X.N[j]? = some y) (hij : i ≠ j)
    (hx : X.env.scope.names.lookup x = some .local) (hy : X.env.scope.names.lookup y = some .local) (ha : SA g X W [a, b] (mOwns ms))
    (hw : swappedStores [.Tuple [.Name x px, .Name y py] kt pt] (.Tuple [a, b] k2 pt2) X.env = pure (some [x, y])) :
    SS g X W (.Assign [.Tuple [.Name x px, .Name y py] kt pt] (.Tuple [a, b] k2 pt2) pos) (sPar2 i j ms) := by
  refine ⟨fun F as ρ μ σ H D fl ρ' μ' h sr er post => wS (ps_par hc hN hi hj hij hx hy pa_wp hw) ?_⟩
  refine ha.st h sr er post fun ss μ1 F1 as1 vs H1 h1 x1 sr1 er1 rs1 => ?_
  split at h1
  · rename_i s t
    cases h1
    cases rs1 with
    | cons r1 r2 => cases r2 with
      | cons r2 r3 =>
        cases r3
        exact ⟨_, _, rfl, post F1 as1 _ H1 x1 sr1 ((er1.set r1).set r2)⟩
  · cases h1
theorem ss_par3 {i j l : Nat} {x y z : Str} {a b c : Expr} {ms : List (Bool × ME)} {px py pz pt pos : Pos} {kt k2 pt2} (hc : X.calm = true) (hN : X.N.Nodup) (hi : X.N[i]? = some x) (hj : X.N[j]? = some y) (hl : X.N[l]? = some z) (hij : i ≠ j) (hil : i ≠ l) (hjl : j ≠ l)
    (hx : X.env.scope.names.lookup x = some .local) (hy : X.env.scope.names.lookup y = some .local) (hz : X.env.scope.names.lookup z = some .local) (ha : SA g X W [a, b, c] (mOwns ms))
    (hw : swappedStores [.Tuple [.Name x px, .Name y py, .Name z pz] kt pt] (.Tuple [a, b, c] k2 pt2) X.env = pure (some [x, y, z])) :
    SS g X W (.Assign [.Tuple [.Name x px, .Name y py, .Name z pz] kt pt] (.Tuple [a, b, c] k2 pt2) pos) (sPar3 i j l ms) := by
  refine ⟨fun F as ρ μ σ H D fl ρ' μ' h sr er post => wS (ps_par3 hc hN hi hj hl hij hil hjl hx hy hz pa_wp hw) ?_⟩
  refine ha.st h sr er post fun ss μ1 F1 as1 vs H1 h1 x1 sr1 er1 rs1 => ?_
  split at h1
  · rename_i s t u
    cases h1
    cases rs1 with
    | cons r1 r2 => cases r2 with
      | cons r2 r3 => cases r3 with
        | cons r3 r4 =>
          cases r4
          exact ⟨_, _, _, rfl, post F1 as1 _ H1 x1 sr1 (((er1.set r1).set r2).set r3)⟩
  · cases h1
end
def starB : Expr → Bool
  | .Starred _ _ => true
  | _ => false
def nameF (sc : Scope) (line : Nat) : Expr → Option Str
  | .Name id pos => if sc.names.lookup id == some .local && pos.line == line then some id else none
  | _ => none
/-- what swappedStores tells of two tuples written out, where it can be told -/
def swapOf (sc : Scope) (ts vs : List Expr) : Option (Option (List Str)) :=
  if (!(ts.length == 2 || ts.length == 3) || vs.length != ts.length) = true then some none else
  if vs.any starB = true then some none else
  if ((ts.filterMap (nameF sc ((ts.head?.map (·.pos.line)).getD 0))).length != ts.length || (ts.filterMap (nameF sc ((ts.head?.map (·.pos.line)).getD 0))).eraseDups.length != (ts.filterMap (nameF sc ((ts.head?.map (·.pos.line)).getD 0))).length) = true then some none else
  if vs.all (foldedForSure 8) = true then some none else
  if vs.all (constantsAlone 8) = true then none else some (some (ts.filterMap (nameF sc ((ts.head?.map (·.pos.line)).getD 0))))
theorem swapOf_ok {sc : Scope} {env : PySem.Env} {ts vs : List Expr} {kt : Nat} {pt : Pos} {k2 : Nat} {pt2 : Pos} {r : Option (List Str)} (hk : env.scope.kind = .function) (hs : env.scope = sc) (h : swapOf sc ts vs = some r) :
    swappedStores [.Tuple ts kt pt] (.Tuple vs k2 pt2) env = pure r := by
  have hb : env.blockKind = .function := by unfold PySem.Env.blockKind; rw [hk]; rfl
  have hkf : ∀ id, env.kindOf id = sc.names.lookup id := fun id => by rw [← hs]; rfl
  have eT : ∀ (f : Expr → Bool), (∀ x, f x = starB x) → vs.any f = vs.any starB := fun f hf => congrArg (fun f => List.any vs f) (funext hf)
  have eN : ∀ (f : Expr → Option Str), (∀ x, f x = nameF sc ((ts.head?.map (·.pos.line)).getD 0) x) → ts.filterMap f = ts.filterMap (nameF sc ((ts.head?.map (·.pos.line)).getD 0)) := fun f hf => congrArg (fun f => List.filterMap f ts) (funext hf)
  unfold swapOf at h
  unfold swappedStores
  simp only [hb, hkf, bne_self_eq_false, Bool.or_false]
  rw [eT _ (by intro x; cases x <;> rfl), eN _ (by intro x; cases x <;> rfl)]
  split at h
  · rename_i c1
    cases h
    rw [if_pos c1]
  · rename_i c1
    rw [if_neg c1]
    split at h
    · rename_i c2
      cases h
      rw [if_pos c2]
    · rename_i c2
      rw [if_neg c2]
      split at h
      · rename_i c3
        cases h
        rw [if_pos c3]
      · rename_i c3
        rw [if_neg c3]
        split at h
        · rename_i c4
          cases h
          rw [if_pos c4]
        · rename_i c4
          rw [if_neg c4]
          split at h
          · cases h
          · rename_i c5
            rw [if_neg c5]
            cases h
            rfl
end Sz

set_option Elab.async false
set_option linter.all false
set_option maxRecDepth 100000
set_option maxHeartbeats 4000000
/-! Sz H: loops, comprehensions, stores to places and attributes, raise. -/
namespace Sz
open PySem PySem.Spec L2

/-! ### what is walked -/
abbrev MI := En → Sto → Option (Except Ex (List D) × Sto)
abbrev wpI (X : Cx) (tg iter : Expr) : TI := fun σ H R => ∀ (pins : List (Addr × Obj)) (s : Shared), Inv X pins σ H s → wpAny (model X.prog X.w) X.A (eval iter X.env) (fun v s1 => wpAny (model X.prog X.w) X.A (pyIter v) (PIE X pins σ tg R) X.xe s1) X.xe s
theorem pi_wp {X : Cx} {tg iter : Expr} : PI X tg iter (wpI X tg iter) := ⟨fun pins s σ H R I h => h pins s I⟩
theorem wI {X : Cx} {tg iter : Expr} {t : TI} {σ : L2.St} {H : Hp} {R : It → Hp → Prop} (h : PI X tg iter t) (q : t σ H R) : wpI X tg iter σ H R := fun pins s I => h.run pins s σ H R I q
/-- the walk tells these things, one by one -/
def JOk (g : G) (J : It) (F0 : Hp) (ds : List D) : Prop := ∀ (F : Hp) (as : List Addr) (μ : Sto) (H : Hp), Same F0 F → SR g F as μ H → ∀ i : Nat, (i = ds.length → J.stop i H) ∧
  ∀ d, ds[i]? = some d → J.go i H ∧ ∀ x H', J.yld i H x H' → ∃ F', Ext F as F' as ∧ SR g F' as μ H' ∧ Rep g F' d x
def PostI (g : G) (W : WX) (F : Hp) (as : List Addr) (σ : L2.St) (R : It → Hp → Prop) : Except Ex (List D) → Sto → Prop
  | .ok ds, μ' => ∀ F' as' H' J, Ext F as F' as' → SR g F' as' μ' H' → JOk g J F' ds → R J H'
  | .error x, μ' => PErr g W F as σ x μ'
structure SI (g : G) (X : Cx) (W : WX) (tg iter : Expr) (m : MI) : Prop where
  run : ∀ (F : Hp) (as : List Addr) (ρ : En) (μ : Sto) (σ : L2.St) (H : Hp) (R : It → Hp → Prop) (r : Except Ex (List D)) (μ' : Sto), m ρ μ = some (r, μ') → SR g F as μ H → ER g F as ρ σ → PostI g W F as σ R r μ' → wpI X tg iter σ H R

section
variable {X : Cx} {pins : List (Addr × Obj)} {σ : L2.St} {H : Hp} {s : Shared} {tg : Expr} {R : It → Hp → Prop} {E : Value → Shared → Prop}
theorem iter_list {a : Addr} {xs : List V} (I1 : Inv X pins σ H s) (hq : SqL X.K H a xs) (q : R (Itl X.K a) H) : wpAny (model X.prog X.w) X.A (pyIter (.ref a)) (PIE X pins σ tg R) E s := by
  obtain ⟨its, rv, p, hz⟩ := I1.list hq
  refine wpAny_pyIter_list p.isList ?_
  refine ⟨s.heap.objs.size, [s.heap.objs.size], _, _, H, rfl, I1.kept (t' := s.toks) fun b o e => Heap.get?_push_of_some _ e, turn_list a _, ⟨_, Heap.get?_push_size _ rfl, rfl, rfl⟩, fun b hb => ?_, q⟩
  have e : b = s.heap.objs.size := by simpa using hb
  subst e
  exact I1.fpOk (Nat.le_refl _) (I1.hok.fresh (Nat.le_refl _))
theorem iter_tup {a : Addr} {xs : List V} (I1 : Inv X pins σ H s) (hq : SqT X.K H a xs) (q : R (Itt X.K a) H) : wpAny (model X.prog X.w) X.A (pyIter (.ref a)) (PIE X pins σ tg R) E s := by
  obtain ⟨its, rv, p, hz⟩ := I1.tuple hq
  refine wpAny_pyIter_tuple (show s.heap.IsTuple a its.toArray from p) ?_
  refine ⟨s.heap.objs.size, [s.heap.objs.size], _, _, H, rfl, I1.kept (t' := s.toks) fun b o e => Heap.get?_push_of_some _ e, turn_tuple a _, ⟨_, Heap.get?_push_size _ rfl, rfl, rfl⟩, fun b hb => ?_, q⟩
  have e : b = s.heap.objs.size := by simpa using hb
  subst e
  exact I1.fpOk (Nat.le_refl _) (I1.hok.fresh (Nat.le_refl _))
theorem iter_str {x : Str} {t : Tok} (I1 : Inv X pins σ H s) (q : R (Its x) H) : wpAny (model X.prog X.w) X.A (pyIter (.str x t)) (PIE X pins σ tg R) E s := by
  cases ha : x.cps.all (· < 128)
  · exact wpAny_pyIter_wide ha (pi_one (tk := s.toks) I1 _ (turn_str _ x t "str_iterator" (.inr rfl)) ⟨_, Heap.get?_push_size _ rfl, rfl, rfl⟩ q)
  · exact wpAny_pyIter_ascii ha (pi_one (tk := s.toks) I1 _ (turn_str _ x t "str_ascii_iterator" (.inl rfl)) ⟨_, Heap.get?_push_size _ rfl, rfl, rfl⟩ q)
end
section
variable {g : G} {F0 : Hp}
theorem seqL_inj {K : PySem.W.Frag} {F H : Hp} {a : Addr} {xs : List V} (h : F a = some (.lst xs)) (e : Same F H) : SqL K H a xs := SqL.of (e _ _ h)
theorem jok_list {a : Addr} {xs : List V} {ds : List D} (h : F0 a = some (.lst xs)) (r : Reps g F0 ds xs) : JOk g (Itl g.K a) F0 ds := by
  intro F as μ H e sr i
  have hs : SqL g.K H a xs := SqL.of (sr.sub _ _ (e _ _ h))
  refine ⟨fun hi => ⟨xs, hs, by rw [r.length, hi]; exact Nat.le_refl _⟩, fun d hd => ?_⟩
  obtain ⟨v, h1, h2⟩ := r.get hd
  refine ⟨⟨xs, v, hs, h1⟩, fun x H' ⟨e1, e2⟩ => ?_⟩
  subst e1
  have := e2 xs hs
  rw [h1] at this
  cases this
  exact ⟨F, .refl, sr, h2.mono e⟩
theorem jok_tup {a : Addr} {xs : List V} {ds : List D} (h : SqT g.K F0 a xs) (r : Reps g F0 ds xs) : JOk g (Itt g.K a) F0 ds := by
  intro F as μ H e sr i
  have hs : SqT g.K H a xs := seqT_mono sr.sub (seqT_mono e h)
  refine ⟨fun hi => ⟨xs, hs, by rw [r.length, hi]; exact Nat.le_refl _⟩, fun d hd => ?_⟩
  obtain ⟨v, h1, h2⟩ := r.get hd
  refine ⟨⟨xs, v, hs, h1⟩, fun x H' ⟨e1, e2⟩ => ?_⟩
  subst e1
  have := e2 xs hs
  rw [h1] at this
  cases this
  exact ⟨F, .refl, sr, h2.mono e⟩
theorem jok_scr {a : Addr} {ns : List Int} (h : SqL g.K F0 a (ns.map V.int)) : JOk g (Itl g.K a) F0 (ns.map .int) := by
  intro F as μ H e sr i
  have hs : SqL g.K H a (ns.map V.int) := sr.sub.seq (e.seq h)
  refine ⟨fun hi => ⟨_, hs, by rw [hi, List.length_map, List.length_map]; exact Nat.le_refl _⟩, fun d hd => ?_⟩
  rw [List.getElem?_map] at hd
  obtain ⟨n, h1, rfl⟩ := Option.map_eq_some_iff.mp hd
  have h2 : (ns.map V.int)[i]? = some (.int n) := by rw [List.getElem?_map, h1]; rfl
  refine ⟨⟨_, _, hs, h2⟩, fun x H' ⟨e1, e2⟩ => ?_⟩
  subst e1
  have := e2 _ hs
  rw [h2] at this
  cases this
  exact ⟨F, .refl, sr, by unfold Rep; rfl⟩
theorem jok_str {x : Str} : JOk g (Its x) F0 (x.cps.toList.map fun c => .str ⟨#[c]⟩) := by
  intro F as μ H e sr i
  refine ⟨fun hi => by rw [hi, List.length_map]; show x.cps.size ≤ x.cps.toList.length; simp, fun d hd => ?_⟩
  rw [List.getElem?_map] at hd
  obtain ⟨c, h1, rfl⟩ := Option.map_eq_some_iff.mp hd
  have h2 : x.cps[i]? = some c := by simpa using h1
  refine ⟨(Array.getElem?_eq_some_iff.mp h2).1, fun y H' ⟨e1, c', e2, e3⟩ => ?_⟩
  subst e1 e3
  rw [h2] at e2
  cases e2
  exact ⟨F, .refl, sr, by unfold Rep; rfl⟩
def rangeD (lo : Int) (n : Nat) : List D := (List.range n).map fun (i : Nat) => .int (lo + i)
theorem jok_range {lo : Int} {n : Nat} : JOk g (Itr lo n) F0 (rangeD lo n) := by
  intro F as μ H e sr i
  unfold rangeD
  refine ⟨fun hi => by rw [hi, List.length_map, List.length_range]; exact Nat.le_refl _, fun d hd => ?_⟩
  rw [List.getElem?_map] at hd
  obtain ⟨k, h1, rfl⟩ := Option.map_eq_some_iff.mp hd
  obtain ⟨h2, h3⟩ := List.getElem?_eq_some_iff.mp h1
  rw [List.length_range] at h2
  rw [List.getElem_range] at h3
  subst h3
  refine ⟨h2, fun y H' ⟨e1, e2⟩ => ?_⟩
  subst e1 e2
  exact ⟨F, .refl, sr, by unfold Rep; rfl⟩
/-- enumerate's things -/
def enumD : Nat → List D → List D
  | _, [] => []
  | i, d :: ds => .tup [.int (i : Nat), d] :: enumD (i + 1) ds
theorem enumD_get : ∀ {ds : List D} {k i : Nat}, (enumD k ds)[i]? = (ds[i]?).map fun d => .tup [.int ((k + i : Nat) : Int), d]
  | [], k, i => by simp [enumD]
  | d :: ds, k, 0 => rfl
  | d :: ds, k, i + 1 => by
    rw [enumD, List.getElem?_cons_succ, List.getElem?_cons_succ, enumD_get]
    have : k + 1 + i = k + (i + 1) := by omega
    rw [this]
theorem enumD_len : ∀ {ds : List D} {k : Nat}, (enumD k ds).length = ds.length
  | [], _ => rfl
  | d :: ds, k => by rw [enumD, List.length_cons, List.length_cons, enumD_len]
theorem jok_enum {a : Addr} {xs : List V} {ds : List D} (h : F0 a = some (.lst xs)) (r : Reps g F0 ds xs) : JOk g (Ite g.K a) F0 (enumD 0 ds) := by
  intro F as μ H e sr i
  have hs : SqL g.K H a xs := SqL.of (sr.sub _ _ (e _ _ h))
  refine ⟨fun hi => ⟨xs, hs, by rw [r.length, hi, enumD_len]; exact Nat.le_refl _⟩, fun d hd => ?_⟩
  rw [enumD_get] at hd
  obtain ⟨d', h0, rfl⟩ := Option.map_eq_some_iff.mp hd
  obtain ⟨v, h1, h2⟩ := r.get h0
  refine ⟨⟨xs, v, hs, h1⟩, fun x H' ⟨T, x', e1, e2, e3, e4⟩ => ?_⟩
  subst e1 e3
  have := e4 xs hs
  rw [h1] at this
  cases this
  obtain ⟨sr', x', y'⟩ := sr.frozen (o := .tup [.int (i : Nat), v]) e2
  refine ⟨_, x', sr', ?_⟩
  unfold Rep
  refine ⟨T, _, rfl, SqT.of y', Reps.cons ?_ (Reps.cons ((h2.mono e).mono x'.1) Reps.nil)⟩
  unfold Rep
  rw [Nat.zero_add]
/-- zip's -/
def zipD : List D → List D → List D
  | d :: ds, e :: es => .tup [d, e] :: zipD ds es
  | _, _ => []
theorem zipD_get : ∀ {ds es : List D} {i : Nat} {x : D}, (zipD ds es)[i]? = some x → ∃ d e, ds[i]? = some d ∧ es[i]? = some e ∧ x = .tup [d, e]
  | [], _, _, _, h => by simp [zipD] at h
  | _ :: _, [], _, _, h => by simp [zipD] at h
  | d :: ds, e :: es, 0, x, h => by
    simp only [zipD, List.getElem?_cons_zero, Option.some.injEq] at h
    exact ⟨d, e, rfl, rfl, h.symm⟩
  | d :: ds, e :: es, i + 1, x, h => by
    simp only [zipD, List.getElem?_cons_succ] at h
    obtain ⟨d', e', h1, h2, h3⟩ := zipD_get h
    exact ⟨d', e', by rw [List.getElem?_cons_succ]; exact h1, by rw [List.getElem?_cons_succ]; exact h2, h3⟩
theorem zipD_len : ∀ {ds es : List D}, (zipD ds es).length = min ds.length es.length
  | [], es => by simp [zipD]
  | _ :: _, [] => by simp [zipD]
  | d :: ds, e :: es => by rw [zipD, List.length_cons, List.length_cons, List.length_cons, zipD_len]; omega
theorem jok_zip {a b : Addr} {xs ys : List V} {ds es : List D} (h : F0 a = some (.lst xs)) (r : Reps g F0 ds xs) (h' : F0 b = some (.lst ys)) (r' : Reps g F0 es ys) : JOk g (Itz g.K a b) F0 (zipD ds es) := by
  intro F as μ H e sr i
  have hs : SqL g.K H a xs := SqL.of (sr.sub _ _ (e _ _ h))
  have hs' : SqL g.K H b ys := SqL.of (sr.sub _ _ (e _ _ h'))
  refine ⟨fun hi => ⟨xs, ys, hs, hs', ?_⟩, fun d hd => ?_⟩
  · rw [zipD_len] at hi
    rw [r.length, r'.length]
    omega
  obtain ⟨d1, d2, k1, k2, rfl⟩ := zipD_get hd
  obtain ⟨v, h1, h2⟩ := r.get k1
  obtain ⟨u, h3, h4⟩ := r'.get k2
  refine ⟨⟨xs, ys, v, u, hs, hs', h1, h3⟩, fun x H' ⟨T, x', y', e1, e2, e3, e4, e5⟩ => ?_⟩
  subst e1 e3
  have q1 := e4 xs hs
  rw [h1] at q1
  cases q1
  have q2 := e5 ys hs'
  rw [h3] at q2
  cases q2
  obtain ⟨sr', x', y'⟩ := sr.frozen (o := .tup [v, u]) e2
  refine ⟨_, x', sr', ?_⟩
  unfold Rep
  exact ⟨T, _, rfl, SqT.of y', Reps.cons ((h2.mono e).mono x'.1) (Reps.cons ((h4.mono e).mono x'.1) Reps.nil)⟩
end

/-- the things of a value -/
def itemsOf : D → Option (List D)
  | .lst ds => some ds
  | .tup ds => some ds
  | .scr ns => some (ns.map .int)
  | .str x => some (x.cps.toList.map fun c => .str ⟨#[c]⟩)
  | _ => none
def finI (f : D → Option (List D)) (s : S) (μ : Sto) : Option (Except Ex (List D) × Sto) := match toD μ (rt s) with
  | some (d, μ2) => (match f d with
    | some ds => some (.ok ds, μ2)
    | none => none)
  | none => none
def iVal (m : ME) : MI := fun ρ μ => andThen (m ρ μ) (finI itemsOf)
def lstOf : D → Option (List D)
  | .lst ds => some ds
  | _ => none
def iEnumM (m : ME) : MI := fun ρ μ => andThen (m ρ μ) (finI fun d => (lstOf d).map (enumD 0))
def finZ (s t : S) (μ : Sto) : Option (Except Ex (List D) × Sto) := match toD μ (rt s) with
  | some (.lst ds, μ2) => (match toD μ2 (rt t) with
    | some (.lst es, μ3) => some (.ok (zipD ds es), μ3)
    | _ => none)
  | _ => none
def iZipM (a b : ME) : MI := fun ρ μ => andThen (mArgs [a, b] ρ μ) fun ss μ1 => match ss with
  | [s, t] => finZ s t μ1
  | _ => none
def inR (i : Int) : Bool := decide (-(2 ^ 62) ≤ i) && decide (i < 2 ^ 62)
def iRange1 (a : ME) : MI := fun ρ μ => andThen (mArgs [a] ρ μ) fun ss μ1 => match vws μ1 ss with
  | some [.int j] => if inR j then some (.ok (rangeD 0 j.toNat), μ1) else none
  | _ => none
def iRange2 (a b : ME) : MI := fun ρ μ => andThen (mArgs [a, b] ρ μ) fun ss μ1 => match vws μ1 ss with
  | some [.int i, .int j] => if inR i && inR j then some (.ok (rangeD i (j - i).toNat), μ1) else none
  | _ => none
section
variable {g : G} {X : Cx} {W : WX} {tg e e2 : Expr} {m m2 : ME} {p pos : Pos}
theorem si_val (hg : g.K = X.K) (he : SE g X W e m) : SI g X W tg e (iVal m) := by
  refine ⟨fun F as ρ μ σ H R r μ' h sr er post pins s I => ?_⟩
  have key : wpE X e σ H fun x H1 => ∀ (s1 : Shared) (v : Value), Inv X pins σ H1 s1 → RelV x v → wpAny (model X.prog X.w) X.A (pyIter v) (PIE X pins σ tg R) X.xe s1 := by
    refine he.then_ (show andThen _ _ = some (r, μ') from h) sr er (fun x e => by subst e; exact post) fun s1 μ1 F1 as1 v H1 h1 x1 sr1 er1 ra1 => ?_
    obtain ⟨F2, x2, sr2, rs2⟩ := root_ok sr1 ra1
    unfold finI at h1
    split at h1
    · rename_i d μ2 hd
      obtain ⟨F3, x3, sr3, r3⟩ := toD_rs sr2 rs2 hd
      split at h1
      · rename_i ds hds
        cases h1
        have fin : ∀ J, JOk g J F3 ds → R J H1 := fun J j => post F3 as1 H1 J ((x1.trans x2).trans x3) sr3 j
        intro st u I1 ru
        unfold itemsOf at hds
        split at hds
        · cases hds
          unfold Rep at r3
          obtain ⟨a, vs, rfl, h3, h4⟩ := r3
          cases ru
          exact iter_list I1 (SqL.of (sr3.sub _ _ h3)) (by rw [← hg]; exact fin _ (jok_list h3 h4))
        · cases hds
          unfold Rep at r3
          obtain ⟨a, vs, rfl, h3, h4⟩ := r3
          cases ru
          exact iter_tup I1 (hg ▸ seqT_mono sr3.sub h3) (by rw [← hg]; exact fin _ (jok_tup h3 h4))
        · cases hds
          unfold Rep at r3
          obtain ⟨a, rfl, h3⟩ := r3
          cases ru
          exact iter_list I1 (hg ▸ sr3.sub.seq h3) (by rw [← hg]; exact fin _ (jok_scr h3))
        · cases hds
          unfold Rep at r3
          subst r3
          obtain ⟨t, rfl⟩ := ru
          exact iter_str I1 (fin _ jok_str)
        · cases hds
      · cases h1
    · cases h1
  exact thn (key pins s I) fun v s1 ⟨x, H1, I1, rx, q⟩ => q s1 v I1 rx
theorem si_range1 (hg : Gl X "range") (hm : X.mg "range" = none) (hn : notStar e = true) (ha : SE g X W e m) : SI g X W tg (.Call (.Name "range" p) [e] [] pos) (iRange1 m) := by
  refine ⟨fun F as ρ μ σ H R r μ' h sr er post => wI (pi_range1 hg hm pa_wp (by rw [starEach_cons hn]; rfl)) ?_⟩
  refine (sa_cons hn ha sa_nil).then_ (show andThen _ _ = some (r, μ') from h) sr er (fun x e => by subst e; exact post) fun ss μ1 F1 as1 vs H1 h1 x1 sr1 er1 rs1 => ?_
  split at h1
  · rename_i j hv
    split at h1
    · rename_i hz
      cases h1
      obtain ⟨v, rfl, h2⟩ := vrs1 (views_rs sr1 rs1 hv)
      cases vr_int h2
      unfold inR at hz
      rw [Bool.and_eq_true, decide_eq_true_eq, decide_eq_true_eq] at hz
      exact ⟨j, rfl, hz.1, hz.2, post F1 as1 H1 _ x1 sr1 jok_range⟩
    · cases h1
  · cases h1
theorem si_range2 (hg : Gl X "range") (hm : X.mg "range" = none) (hn : notStar e = true) (hn2 : notStar e2 = true) (ha : SE g X W e m) (hb : SE g X W e2 m2) : SI g X W tg (.Call (.Name "range" p) [e, e2] [] pos) (iRange2 m m2) := by
  refine ⟨fun F as ρ μ σ H R r μ' h sr er post => wI (pi_range2 hg hm pa_wp (by rw [starEach_cons hn, starEach_cons hn2]; rfl) (by rw [starEach_cons hn2]; rfl)) ?_⟩
  refine (sa_cons hn ha (sa_cons hn2 hb sa_nil)).then_ (show andThen _ _ = some (r, μ') from h) sr er (fun x e => by subst e; exact post) fun ss μ1 F1 as1 vs H1 h1 x1 sr1 er1 rs1 => ?_
  split at h1
  · rename_i i j hv
    split at h1
    · rename_i hz
      cases h1
      obtain ⟨v, u, rfl, h2, h3⟩ := vrs2 (views_rs sr1 rs1 hv)
      cases vr_int h2
      cases vr_int h3
      unfold inR at hz
      simp only [Bool.and_eq_true, decide_eq_true_eq] at hz
      exact ⟨i, j, rfl, ⟨hz.1.1, hz.1.2, hz.2.1, hz.2.2⟩, post F1 as1 H1 _ x1 sr1 jok_range⟩
    · cases h1
  · cases h1
theorem rt_rt (s : S) : rt (rt s) = rt s := by cases s <;> rfl
theorem si_enum {elts : List Expr} {kk : Nat} {tpos : Pos} (hK : g.K = X.K) (hg : Gl X "enumerate") (hm : X.mg "enumerate" = none) (hn : notStar e = true) (ha : SE g X W e m) :
    SI g X W (.Tuple elts kk tpos) (.Call (.Name "enumerate" p) [e] [] pos) (iEnumM m) := by
  refine ⟨fun F as ρ μ σ H R r μ' h sr er post => wI (pi_enum hg hm pa_wp (by rw [starEach_cons hn]; rfl)) ?_⟩
  show wpA X [e] σ H _
  have key : wpE X e σ H fun x H1 => ∃ a xs, x = .ref a ∧ SqL X.K H1 a xs ∧ R (Ite X.K a) H1 := by
    refine ha.then_ (show andThen _ _ = some (r, μ') from h) sr er (fun x e => by subst e; exact post) fun s1 μ1 F1 as1 v H1 h1 x1 sr1 er1 ra1 => ?_
    obtain ⟨F2, x2, sr2, rs2⟩ := root_ok sr1 ra1
    unfold finI at h1
    split at h1
    · rename_i d μ2 hd
      obtain ⟨F3, x3, sr3, r3⟩ := toD_rs sr2 rs2 hd
      split at h1
      · rename_i ds hds
        cases h1
        obtain ⟨l, h2, rfl⟩ := Option.map_eq_some_iff.mp hds
        unfold lstOf at h2
        split at h2
        · cases h2
          unfold Rep at r3
          obtain ⟨a, vs, rfl, h3, h4⟩ := r3
          exact ⟨a, vs, rfl, SqL.of (sr3.sub _ _ h3), by rw [← hK]; exact post F3 as1 H1 _ ((x1.trans x2).trans x3) sr3 (jok_enum h3 h4)⟩
        · cases h2
      · cases h1
    · cases h1
  exact wA (pa_cons pe_wp pa_nil (starEach_cons hn)) (wpE_mono key fun v H' ⟨a, xs, e1, e2, e3⟩ => ⟨a, xs, by rw [e1], e2, e3⟩)
theorem si_zip {elts : List Expr} {kk : Nat} {tpos : Pos} (hK : g.K = X.K) (hg : Gl X "zip") (hm : X.mg "zip" = none) (hn : notStar e = true) (hn2 : notStar e2 = true) (ha : SE g X W e m) (hb : SE g X W e2 m2) :
    SI g X W (.Tuple elts kk tpos) (.Call (.Name "zip" p) [e, e2] [] pos) (iZipM m m2) := by
  refine ⟨fun F as ρ μ σ H R r μ' h sr er post => wI (pi_zip hg hm pa_wp (by rw [starEach_cons hn]) (starEach_plain (by rw [List.all_cons, hn2]; rfl))) ?_⟩
  refine (sa_cons hn ha (sa_cons hn2 hb sa_nil)).then_ (show andThen _ _ = some (r, μ') from h) sr er (fun x e => by subst e; exact post) fun ss μ1 F1 as1 vs H1 h1 x1 sr1 er1 rs1 => ?_
  split at h1
  · rename_i s t
    cases rs1 with
    | cons r1 r2 => cases r2 with
      | cons r2 r3 =>
        cases r3
        unfold finZ at h1
        split at h1
        · rename_i ds μ2 hd
          obtain ⟨F2', x2', sr2', rs2'⟩ := root_ok sr1 r1.ra
          obtain ⟨F2, x2, sr2, q2⟩ := toD_rs sr2' rs2' hd
          split at h1
          · rename_i es μ3 he
            cases h1
            obtain ⟨F3', x3', sr3', rs3'⟩ := root_ok sr2 ((r2.mono x2').mono x2).ra
            obtain ⟨F3, x3, sr3, q3⟩ := toD_rs sr3' rs3' he
            have q2' := (q2.mono x3'.1).mono x3.1
            unfold Rep at q2' q3
            obtain ⟨a, vs, rfl, h3, h4⟩ := q2'
            obtain ⟨b, us, rfl, h5, h6⟩ := q3
            exact ⟨a, b, vs, us, rfl, SqL.of (sr3.sub _ _ h3), SqL.of (sr3.sub _ _ h5), by rw [← hK]; exact post F3 as1 H1 _ ((((x1.trans x2').trans x2).trans x3').trans x3) sr3 (jok_zip h3 h4 h5 h6)⟩
          · cases h1
        · cases h1
  · cases h1
end

/-! ### for -/
def floop (t : MG) (b : MS) : List D → MS
  | [], ρ, μ => some (.nx, ρ, μ)
  | d :: ds, ρ, μ => match t (.val d) ρ μ with
    | none => none
    | some (ρ1, μ1) => match b ρ1 μ1 with
      | some (.nx, ρ2, μ2) => floop t b ds ρ2 μ2
      | some (.ct, ρ2, μ2) => floop t b ds ρ2 μ2
      | some (.bk, ρ2, μ2) => some (.nx, ρ2, μ2)
      | r => r
def sFor (i : MI) (t : MG) (b : MS) : MS := fun ρ μ => exThen (i ρ μ) ρ fun ds μ1 => floop t b ds ρ μ1
def notSet : Expr → Bool
  | .Set _ _ _ => false
  | _ => true
theorem notSet_ok {e : Expr} {env : PySem.Env} (h : notSet e = true) : ∀ x, foldedSetIterable e env x = pure x := by
  cases e <;> first | (exact fun _ => rfl) | (exact absurd (show false = true from h) Bool.false_ne_true)
section
variable {g : G} {X : Cx} {W : WX} {tg iter : Expr} {body : List Stmt} {mi : MI} {t : MG} {b : MS} {pos : Pos}
theorem ss_for (hp : PassesOwn (model X.prog X.w) X.A X.env X.xe) (hc : X.calm = true) (hi : SI g X W tg iter mi) {sl : List Nat} (hg : SG g X tg sl t) (hb : SB g X W body b) (hs : notSet iter = true) : SS g X W (.For tg iter body [] pos) (sFor mi t b) := by
  refine ⟨fun F as ρ μ σ H D fl ρ' μ' h sr er post => wS (ps_for hp hc pi_wp pg_wp pss_wp (notSet_ok hs)) ?_⟩
  show wpI X tg iter σ H _
  rcases exThen_some (show exThen _ _ _ = some (fl, ρ', μ') from h) with ⟨x, h1, h2, h3⟩ | ⟨ds, μ1, h1, h2⟩
  · dsimp only at h1 h2 h3
    subst h2 h3
    exact hi.run F as ρ' μ σ H _ (.error x) μ' h1 sr er (post.err er)
  · refine hi.run F as ρ μ σ H _ (.ok ds) μ1 h1 sr er fun F1 as1 H1 J x1 sr1 j => ?_
    refine ⟨fun i m σ' H' => m = ds.length - i ∧ i ≤ ds.length ∧ ∃ F' as' ρ2 μ2, floop t b (ds.drop i) ρ2 μ2 = some (fl, ρ', μ') ∧ Ext F1 as1 F' as' ∧ SR g F' as' μ2 H' ∧ ER g F' as' ρ2 σ',
      ⟨ds.length, rfl, Nat.zero_le _, F1, as1, ρ, μ1, h2, .refl, sr1, er.mono x1⟩, ?_⟩
    rintro i m σ' H' ⟨rfl, hi', F', as', ρ2, μ2, h3, x2, sr2, er2⟩
    obtain ⟨j1, j2⟩ := j F' as' μ2 H' x2.1 sr2 i
    by_cases hlt : i < ds.length
    · right
      obtain ⟨go, step⟩ := j2 ds[i] (by simp [hlt])
      rw [List.drop_eq_getElem_cons hlt] at h3
      unfold floop at h3
      cases q : t (.val ds[i]) ρ2 μ2 with
      | none => rw [q] at h3; cases h3
      | some z =>
        obtain ⟨ρ3, μ3⟩ := z
        rw [q] at h3
        refine ⟨go, fun σ4 H4 => ∃ F4 as4 ρ4 μ4, floop t b (ds.drop (i + 1)) ρ4 μ4 = some (fl, ρ', μ') ∧ Ext F1 as1 F4 as4 ∧ SR g F4 as4 μ4 H4 ∧ ER g F4 as4 ρ4 σ4, fun σ4 H4 hN => ⟨ds.length - (i + 1), by omega, rfl, hlt, hN⟩, fun x H5 y => ?_⟩
        obtain ⟨F5, x5, sr5, r5⟩ := step x H5 y
        refine hg.run F5 as' ρ2 μ2 σ' H5 (.val ds[i]) x _ ρ3 μ3 q sr5 (er2.mono x5) r5 fun F6 as6 σ6 H6 x6 sr6 er6 _ => ?_
        have xx : Ext F1 as1 F6 as6 := (x2.trans x5).trans x6
        cases q2 : b ρ3 μ3 with
        | none => simp only [q2] at h3; cases h3
        | some z =>
          obtain ⟨fl2, ρ4, μ4⟩ := z
          simp only [q2] at h3
          refine hb.run F6 as6 ρ3 μ3 σ6 H6 _ fl2 ρ4 μ4 q2 sr6 er6 ?_
          cases fl2 with
          | nx => exact fun F7 as7 σ7 H7 x7 sr7 er7 => ⟨F7, as7, ρ4, μ4, h3, xx.trans x7, sr7, er7⟩
          | ct => exact fun F7 as7 σ7 H7 x7 sr7 er7 => ⟨F7, as7, ρ4, μ4, h3, xx.trans x7, sr7, er7⟩
          | bk => cases h3; exact fun F7 as7 σ7 H7 x7 sr7 er7 => post F7 as7 σ7 H7 ((x1.trans xx).trans x7) sr7 er7
          | rt s => cases h3; exact fun F7 as7 v H7 x7 sr7 ra7 => post F7 as7 v H7 ((x1.trans xx).trans x7) sr7 ra7
          | ex x => cases h3; exact fun F7 as7 σ7 cls d H7 x7 sr7 er7 rx7 => post F7 as7 σ7 cls d H7 ((x1.trans xx).trans x7) sr7 er7 rx7
    · left
      have e : i = ds.length := by omega
      rw [e, List.drop_length] at h3
      cases h3
      exact ⟨j1 e, post F' as' σ' H' (x1.trans x2) sr2 er2⟩
end

/-! ### while -/
def wloop (t : MT) (b : MS) : Nat → MS
  | 0, _, _ => none
  | n + 1, ρ, μ => exThen (t ρ μ) ρ fun c μ1 => if c then (match b ρ μ1 with
      | some (.nx, ρ2, μ2) => wloop t b n ρ2 μ2
      | some (.ct, ρ2, μ2) => wloop t b n ρ2 μ2
      | some (.bk, ρ2, μ2) => some (.nx, ρ2, μ2)
      | r => r) else some (.nx, ρ, μ1)
theorem exThen_ex {α : Type} {r : Option (Except Ex α × Sto)} {ρ : En} {f f' : α → Sto → Option (Fl × En × Sto)} {q : Fl × En × Sto} (h : exThen r ρ f = some q) (hf : ∀ a μ q, f a μ = some q → f' a μ = some q) : exThen r ρ f' = some q := by
  rcases r with _ | ⟨_ | a, μ⟩
  · cases h
  · exact h
  · exact hf a μ q h
theorem wloop_mono {t : MT} {b : MS} : ∀ {n m : Nat} {ρ : En} {μ : Sto} {r : Fl × En × Sto}, n ≤ m → wloop t b n ρ μ = some r → wloop t b m ρ μ = some r
  | 0, _, _, _, _, _, h => by cases h
  | n + 1, 0, _, _, _, hl, _ => absurd hl (Nat.not_succ_le_zero n)
  | n + 1, m + 1, ρ, μ, r, hl, h => by
    unfold wloop at h ⊢
    refine exThen_ex h fun k μ1 q hk => ?_
    cases k with
    | false => exact hk
    | true =>
      rw [if_pos rfl] at hk ⊢
      cases e : b ρ μ1 with
      | none => rw [e] at hk; cases hk
      | some z =>
        obtain ⟨fl, ρ2, μ2⟩ := z
        rw [e] at hk
        cases fl with
        | nx => exact wloop_mono (Nat.le_of_succ_le_succ hl) hk
        | ct => exact wloop_mono (Nat.le_of_succ_le_succ hl) hk
        | bk => exact hk
        | rt s => exact hk
        | ex x => exact hk
open Classical in
/-- the loop to its end, however long -/
noncomputable def sWhile (t : MT) (b : MS) : MS := fun ρ μ => if h : ∃ n r, wloop t b n ρ μ = some r then some (choose (choose_spec h)) else none
theorem sWhile_eq {t : MT} {b : MS} {ρ : En} {μ : Sto} {r : Fl × En × Sto} (n : Nat) (h : wloop t b n ρ μ = some r) : sWhile t b ρ μ = some r := by
  unfold sWhile
  have hx : ∃ n r, wloop t b n ρ μ = some r := ⟨n, r, h⟩
  rw [dif_pos hx]
  have h2 := Classical.choose_spec (Classical.choose_spec hx)
  have h3 := wloop_mono (Nat.le_max_left n (Classical.choose hx)) h
  have h4 := wloop_mono (Nat.le_max_right n (Classical.choose hx)) h2
  exact h4.symm.trans h3
theorem sWhile_some {t : MT} {b : MS} {ρ : En} {μ : Sto} {r : Fl × En × Sto} (h : sWhile t b ρ μ = some r) : ∃ n, wloop t b n ρ μ = some r := by
  unfold sWhile at h
  split at h
  · rename_i hx
    cases h
    exact ⟨_, Classical.choose_spec (Classical.choose_spec hx)⟩
  · cases h
section
variable {g : G} {X : Cx} {W : WX} {c : Expr} {body : List Stmt} {t : MT} {b : MS} {pos : Pos}
theorem ss_while (hp : PassesOwn (model X.prog X.w) X.A X.env X.xe) (hc : STe g X W c t) (hb : SB g X W body b) : SS g X W (.While c body [] pos) (sWhile t b) := by
  refine ⟨fun F as ρ μ σ H D fl ρ' μ' h sr er post => wS (ps_while hp pt_wp pss_wp) ?_⟩
  obtain ⟨fuel, h⟩ := sWhile_some h
  refine ⟨fun n σ' H' => ∃ F' as' ρ2 μ2, wloop t b n ρ2 μ2 = some (fl, ρ', μ') ∧ Ext F as F' as' ∧ SR g F' as' μ2 H' ∧ ER g F' as' ρ2 σ', ⟨fuel, F, as, ρ, μ, h, .refl, sr, er⟩, ?_⟩
  rintro n σ' H' ⟨F', as', ρ2, μ2, h3, x2, sr2, er2⟩
  cases n with
  | zero => cases h3
  | succ n =>
    unfold wloop at h3
    refine hc.st h3 sr2 er2 (post.ext x2) fun k μ3 F3 as3 H3 h4 x3 sr3 er3 => ?_
    have xx := x2.trans x3
    cases k with
    | false =>
      rw [if_neg Bool.false_ne_true] at h4 ⊢
      cases h4
      exact post F3 as3 σ' H3 xx sr3 er3
    | true =>
      rw [if_pos rfl] at h4 ⊢
      refine ⟨fun σ4 H4 => ∃ F4 as4 ρ4 μ4, wloop t b n ρ4 μ4 = some (fl, ρ', μ') ∧ Ext F as F4 as4 ∧ SR g F4 as4 μ4 H4 ∧ ER g F4 as4 ρ4 σ4, fun σ4 H4 hN => ⟨n, Nat.lt_succ_self _, hN⟩, ?_⟩
      cases q2 : b ρ2 μ3 with
      | none => rw [q2] at h4; cases h4
      | some z =>
        obtain ⟨fl2, ρ4, μ4⟩ := z
        rw [q2] at h4
        refine hb.run F3 as3 ρ2 μ3 σ' H3 _ fl2 ρ4 μ4 q2 sr3 er3 ?_
        cases fl2 with
        | nx => exact fun F7 as7 σ7 H7 x7 sr7 er7 => ⟨F7, as7, ρ4, μ4, h4, xx.trans x7, sr7, er7⟩
        | ct => exact fun F7 as7 σ7 H7 x7 sr7 er7 => ⟨F7, as7, ρ4, μ4, h4, xx.trans x7, sr7, er7⟩
        | bk => cases h4; exact fun F7 as7 σ7 H7 x7 sr7 er7 => post F7 as7 σ7 H7 (xx.trans x7) sr7 er7
        | rt s => cases h4; exact fun F7 as7 v H7 x7 sr7 ra7 => post F7 as7 v H7 (xx.trans x7) sr7 ra7
        | ex x => cases h4; exact fun F7 as7 σ7 cls d H7 x7 sr7 er7 rx7 => post F7 as7 σ7 cls d H7 (xx.trans x7) sr7 er7 rx7
end
end Sz

set_option Elab.async false
set_option linter.all false
set_option maxRecDepth 100000
set_option maxHeartbeats 4000000
/-! Sz I: comprehensions, stores to places and attributes, an operator's store, raise. -/
namespace Sz
open PySem PySem.Spec L2

/-! ### comprehensions -/
def wipeE (ρ : En) : List Nat → En
  | [] => ρ
  | v :: vs => (wipeE ρ vs).set v none
theorem wipeE_length (ρ : En) : ∀ vs : List Nat, (wipeE ρ vs).length = ρ.length
  | [] => rfl
  | v :: vs => by unfold wipeE; rw [List.length_set, wipeE_length ρ vs]
theorem wipeE_some {ρ : En} {i : Nat} {s : S} : ∀ {vs : List Nat}, (wipeE ρ vs)[i]? = some (some s) → ρ[i]? = some (some s) ∧ i ∉ vs
  | [], h => ⟨h, by simp⟩
  | v :: vs, h => by
    unfold wipeE at h
    by_cases hi : v = i
    · subst hi
      by_cases hv : v < (wipeE ρ vs).length
      · rw [List.getElem?_set_self hv] at h; cases h
      · rw [List.getElem?_eq_none (by simpa using hv)] at h; cases h
    · rw [List.getElem?_set_ne hi] at h
      obtain ⟨h1, h2⟩ := wipeE_some h
      exact ⟨h1, by simp only [List.mem_cons, not_or]; exact ⟨fun e => hi e.symm, h2⟩⟩
theorem ER.wipe {g : G} {F : Hp} {as : List Addr} {ρ : En} {σ : L2.St} (h : ER g F as ρ σ) (vs : List Nat) : ER g F as (wipeE ρ vs) (L2.wipe σ vs) := by
  refine ⟨by rw [wipeE_length, wipe_length]; exact h.len, fun i s q => ?_⟩
  obtain ⟨h1, h2⟩ := wipeE_some q
  obtain ⟨v, h3, h4⟩ := h.at_ i s h1
  exact ⟨v, by rw [wipe_out h2]; exact h3, h4⟩
/-- the element made is put behind the k-th cell's list -/
def cput (k : Nat) (s : S) (μ : Sto) : Option Sto := match toD μ (rt s) with
  | some (d, μ1) => (match μ1[k]? with
    | some (.lst acc) => if acc.length < sizeLine then some (μ1.set k (.lst (acc ++ [d]))) else none
    | _ => none)
  | none => none
def cloop (t : MG) (c : MT) (el : ME) (ρ : En) (k : Nat) : List D → Sto → Option Sto
  | [], μ => some μ
  | d :: ds, μ => match t (.val d) ρ μ with
    | none => none
    | some (ρ1, μ1) => match c ρ1 μ1 with
      | some (.ok true, μ2) => (match el ρ1 μ2 with
        | some (.ok s, μ3) => (match cput k s μ3 with
          | some μ4 => cloop t c el ρ k ds μ4
          | none => none)
        | _ => none)
      | some (.ok false, μ2) => cloop t c el ρ k ds μ2
      | _ => none
def finC (k : Nat) : Option Sto → Option R
  | some μ => (match μ[k]? with
    | some (.lst acc) => some (.ok (.fr acc), μ.take k)
    | _ => none)
  | none => none
def mComp (i : MI) (t : MG) (c : MT) (el : ME) (own : List Nat) : ME := fun ρ μ => andThen (i ρ μ) fun ds μ1 => finC μ1.length (cloop t c el (wipeE ρ own) μ1.length ds (μ1 ++ [.lst []]))
def tTrue : MT := fun _ μ => some (.ok true, μ)
/-- no exception is taken there -/
abbrev W0 : WX := fun _ _ _ _ => False
abbrev blkX (X : Cx) (scope : Scope) (s : Shared) (H : Hp) (C : Addr) (cl : List (Str × Addr)) (fp : List Addr) : Cx := X.blk s H scope (compEnvC scope cl C X.env) fp
/-- a clause's tests -/
inductive STs (g : G) (X : Cx) (scope : Scope) : List Expr → MT → Prop
  | nil : STs g X scope [] tTrue
  | one {e : Expr} {c : MT} (h : ∀ s H C cl fp, STe g (blkX X scope s H C cl fp) W0 e c) : STs g X scope [e] c
def ttOf (X : Cx) (scope : Scope) : List Expr → TT
  | [] => tYes
  | e :: _ => fun σ H Q => ∀ s H' C cl fp, wpT (blkX X scope s H' C cl fp) e σ H Q
section
variable {g : G} {X : Cx} {W : WX} {tg iter elt : Expr} {ifs : List Expr} {scope : Scope} {mi : MI} {t : MG} {c : MT} {el : ME} {pos : Pos} {ow : List (Str × Nat)} {sl : List Nat}
theorem comp_run {F : Hp} {as : List Addr} {ρ : En} {μ : Sto} {σ : L2.St} {H : Hp} {Q : VK} {r : Except Ex S} {μ' : Sto} (hi : SI g X W tg iter mi) (hg : ∀ s H C cl fp, SG g (blkX X scope s H C cl fp) tg sl t) (hsl : ∀ i ∈ sl, i ∈ ow.map (·.2))
    (ht : STs g X scope ifs c) (he : ∀ s H C cl fp, SE g (blkX X scope s H C cl fp) W0 elt el) (h : mComp mi t c el (ow.map (·.2)) ρ μ = some (r, μ')) (sr : SR g F as μ H) (er : ER g F as ρ σ) (post : PostE g W F as σ Q r μ') :
    tLc (wpI X tg iter) (fun v σ H Q => ∀ s H' C cl fp, wpG (blkX X scope s H' C cl fp) tg v σ H Q) (ttOf X scope ifs)
      (fun σ H Q => ∀ s H' C cl fp, wpE (blkX X scope s H' C cl fp) elt σ H Q) (ow.map (·.2)) σ H Q := by
  rcases andThen_some (show andThen _ _ = some (r, μ') from h) with ⟨x, h1, h2⟩ | ⟨ds, μ1, h1, h2⟩
  · dsimp only at h1 h2
    subst h2
    exact hi.run F as ρ μ σ H _ (.error x) μ' h1 sr er post
  refine hi.run F as ρ μ σ H _ (.ok ds) μ1 h1 sr er fun F1 as1 H1 J x1 sr1 j => ?_
  intro Dl hD
  have er1 := (er.mono x1).wipe (ow.map (·.2))
  cases hq : cloop t c el (wipeE ρ (ow.map (·.2))) μ1.length ds (μ1 ++ [.lst []]) with
  | none => rw [hq] at h2; cases h2
  | some μf =>
    rw [hq] at h2
    obtain ⟨sr2, f2, n2⟩ := sr1.loose (o := .lst []) hD
    obtain ⟨sr3, x3⟩ := sr2.push (c := .lst []) upd_same n2 ⟨f2, [], upd_same, Reps.nil⟩
    have hk0 : (as1 ++ [Dl])[μ1.length]? = some Dl := by rw [← sr1.len, List.getElem?_append_right (Nat.le_refl _), Nat.sub_self]; rfl
    refine ⟨fun i m H' => m = ds.length - i ∧ i ≤ ds.length ∧ ∃ F' as' μ2, cloop t c el (wipeE ρ (ow.map (·.2))) μ1.length (ds.drop i) μ2 = some μf ∧ Ext F1 (as1 ++ [Dl]) F' as' ∧ SR g F' as' μ2 H',
      ⟨ds.length, rfl, Nat.zero_le _, F1, as1 ++ [Dl], _, hq, .refl, sr3⟩, ?_⟩
    rintro i m H' ⟨rfl, hi', F', as', μ2, h3, x2, sr2⟩
    obtain ⟨j1, j2⟩ := j F' as' μ2 H' x2.1 sr2 i
    have hka : as'[μ1.length]? = some Dl := by
      obtain ⟨_, l, rfl⟩ := x2
      rw [List.getElem?_append_left (List.getElem?_eq_some_iff.mp hk0).1]
      exact hk0
    by_cases hlt : i < ds.length
    · right
      obtain ⟨go, step⟩ := j2 ds[i] (by simp [hlt])
      rw [List.drop_eq_getElem_cons hlt] at h3
      unfold cloop at h3
      cases q : t (.val ds[i]) (wipeE ρ (ow.map (·.2))) μ2 with
      | none => simp only [q] at h3; cases h3
      | some z =>
        obtain ⟨ρ3, μ3⟩ := z
        simp only [q] at h3
        refine ⟨go, fun H4 => ∃ F4 as4 μ4, cloop t c el (wipeE ρ (ow.map (·.2))) μ1.length (ds.drop (i + 1)) μ4 = some μf ∧ Ext F1 (as1 ++ [Dl]) F4 as4 ∧ SR g F4 as4 μ4 H4, fun H4 hN => ⟨ds.length - (i + 1), by omega, rfl, hlt, hN⟩, fun x H5 y => ?_⟩
        obtain ⟨F5, x5, sr5, r5⟩ := step x H5 y
        intro s H' C cl fp
        refine (hg s H' C cl fp).run F5 as' _ μ2 _ H5 (.val ds[i]) x _ ρ3 μ3 q sr5 (er1.mono (Ext.trans (show Ext F1 as1 F1 (as1 ++ [Dl]) from x3) (x2.trans x5))) r5 fun F6 as6 σ6 H6 x6 sr6 er6 w6 => ?_
        have xx : Ext F1 (as1 ++ [Dl]) F6 as6 := (x2.trans x5).trans x6
        have w7 : L2.wipe σ6 (ow.map (·.2)) = L2.wipe σ (ow.map (·.2)) := by
          rw [w6 _ hsl]
          apply List.ext_getElem?
          intro k
          by_cases hk : k ∈ ow.map (·.2)
          · rw [wipe_in hk, wipe_in hk, wipe_length]
          · rw [wipe_out hk]
        refine ⟨w7, ?_⟩
        -- the test, then the element
        have rest : ∀ (F7 : Hp) (as7 : List Addr) (μ7 : Sto) (H7 : Hp) (k : Bool), Ext F6 as6 F7 as7 → SR g F7 as7 μ7 H7 → c ρ3 μ3 = some (.ok k, μ7) →
            (if k = true then (∀ s H' C cl fp, wpE (blkX X scope s H' C cl fp) elt σ6 H7 fun y H4 => ∃ acc, H4 Dl = some (.lst acc) ∧ acc.length < sizeLine ∧ (fun H4 => ∃ F4 as4 μ4, cloop t c el (wipeE ρ (ow.map (·.2))) μ1.length (ds.drop (i + 1)) μ4 = some μf ∧ Ext F1 (as1 ++ [Dl]) F4 as4 ∧ SR g F4 as4 μ4 H4) (upd H4 Dl (.lst (acc ++ [y]))))
              else (fun H4 => ∃ F4 as4 μ4, cloop t c el (wipeE ρ (ow.map (·.2))) μ1.length (ds.drop (i + 1)) μ4 = some μf ∧ Ext F1 (as1 ++ [Dl]) F4 as4 ∧ SR g F4 as4 μ4 H4) H7) := by
          intro F7 as7 μ7 H7 k x7 sr7 hc
          rw [hc] at h3
          cases k with
          | false =>
            rw [if_neg Bool.false_ne_true]
            exact ⟨F7, as7, μ7, h3, xx.trans x7, sr7⟩
          | true =>
            rw [if_pos rfl]
            intro s H' C cl fp
            cases q2 : el ρ3 μ7 with
            | none => simp only [q2] at h3; cases h3
            | some z =>
              obtain ⟨r8, μ8⟩ := z
              cases r8 with
              | error _ => simp only [q2] at h3; cases h3
              | ok s8 =>
                simp only [q2] at h3
                refine (he s H' C cl fp).run F7 as7 ρ3 μ7 σ6 H7 _ (.ok s8) μ8 q2 sr7 (er6.mono x7) fun F8 as8 v8 H8 x8 sr8 ra8 => ?_
                cases q3 : cput μ1.length s8 μ8 with
                | none => simp only [q3] at h3; cases h3
                | some μ9 =>
                  simp only [q3] at h3
                  unfold cput at q3
                  split at q3
                  · rename_i d μa hd
                    obtain ⟨F8', x8', sr8', rs8⟩ := root_ok sr8 ra8
                    obtain ⟨F9, x9, sr9, r9⟩ := toD_rs sr8' rs8 hd
                    have xy : Ext F1 (as1 ++ [Dl]) F9 as8 := ((xx.trans x7).trans x8).trans (x8'.trans x9)
                    have hkb : as8[μ1.length]? = some Dl := by
                      obtain ⟨_, l, e⟩ := xy
                      rw [e, List.getElem?_append_left (List.getElem?_eq_some_iff.mp hk0).1]
                      exact hk0
                    split at q3
                    · rename_i acc hacc
                      split at q3
                      · rename_i hz
                        cases q3
                        obtain ⟨fa, vs, ha, rv⟩ := sr9.cells _ _ _ hkb hacc
                        refine ⟨vs, ha, by rw [rv.length]; exact hz, F9, as8, _, h3, xy, ?_⟩
                        exact sr9.write hkb fa ⟨fa, _, upd_same, rv.append (Reps.cons r9 Reps.nil)⟩
                      · cases q3
                    · cases q3
                  · cases q3
        cases ht with
        | nil => exact rest F6 as6 μ3 H6 true .refl sr6 rfl
        | one hte =>
          intro s H' C cl fp
          cases q2 : c ρ3 μ3 with
          | none => simp only [q2] at h3; cases h3
          | some z =>
            obtain ⟨r7, μ7⟩ := z
            cases r7 with
            | error _ => simp only [q2] at h3; cases h3
            | ok k => exact (hte s H' C cl fp).run F6 as6 ρ3 μ3 σ6 H6 _ (.ok k) μ7 q2 sr6 er6 fun F7 as7 H7 x7 sr7 => rest F7 as7 μ7 H7 k x7 sr7 q2
    · left
      have e : i = ds.length := by omega
      refine ⟨j1 e, ?_⟩
      rw [e, List.drop_length] at h3
      cases h3
      replace h2 : (match μf[μ1.length]? with | some (.lst acc) => some (Except.ok (S.fr acc), μf.take μ1.length) | _ => none) = some (r, μ') := h2
      split at h2
      · rename_i acc hacc
        cases h2
        obtain ⟨fa, vs, ha, rv⟩ := sr2.cells _ _ _ hka hacc
        have x9 : Ext F1 as1 F' as' := Ext.trans (show Ext F1 as1 F1 (as1 ++ [Dl]) from x3) x2
        refine post F' as1 _ H' (x1.trans ⟨x9.1, [], by rw [List.append_nil]⟩) (sr1.back x9 sr2) (ra_lst ha fa ?_ rv)
        intro hm
        exact n2 hm
      · cases h2
theorem comp_parts (hg : ∀ s H C cl fp, SG g (blkX X scope s H C cl fp) tg sl t) (ht : STs g X scope ifs c) :
    (∀ (s : Shared) (H : Hp) (C : Addr) (cl : List (Str × Addr)) (fp : List Addr), PG (X.blk s H scope (compEnvC scope cl C X.env) fp) tg (fun v σ H Q => ∀ s H' C cl fp, wpG (blkX X scope s H' C cl fp) tg v σ H Q)) ∧
    (∀ (s : Shared) (H : Hp) (C : Addr) (cl : List (Str × Addr)) (fp : List Addr), PTs (X.blk s H scope (compEnvC scope cl C X.env) fp) ifs (ttOf X scope ifs)) ∧
    (∀ (s : Shared) (H : Hp) (C : Addr) (cl : List (Str × Addr)) (fp : List Addr), PE (X.blk s H scope (compEnvC scope cl C X.env) fp) elt (fun σ H Q => ∀ s H' C cl fp, wpE (blkX X scope s H' C cl fp) elt σ H Q)) := by
  refine ⟨fun s H C cl fp => ⟨fun pins s' σ H' v u Q I r h => h s H C cl fp pins s' u I r⟩, ?_, fun s H C cl fp => ⟨fun pins s' σ H' Q I h => h s H C cl fp pins s' I⟩⟩
  cases ht with
  | nil => exact fun s H C cl fp => pts_nil
  | one _ => exact fun s H C cl fp => pts_one ⟨fun pins s' σ H' Q I h => h s H C cl fp pins s' I⟩
theorem se_comp (hc : X.calm = true) (hN : X.N.Nodup) (hi : SI g X W tg iter mi) (ok : BlkOk X.N X.env.scope scope ow) (hg : ∀ s H C cl fp, SG g (blkX X scope s H C cl fp) tg sl t) (hsl : ∀ i ∈ sl, i ∈ ow.map (·.2))
    (ht : STs g X scope ifs c) (he : ∀ s H C cl fp, SE g (blkX X scope s H C cl fp) W0 elt el) (hs : notSet iter = true) : SE g X W (.ListComp elt [⟨tg, iter, ifs, 0⟩] scope pos) (mComp mi t c el (ow.map (·.2))) := by
  obtain ⟨p1, p2, p3⟩ := comp_parts (elt := elt) hg ht
  exact ⟨fun F as ρ μ σ H Q r μ' h sr er post => wE (pe_lc hc hN pi_wp ok p1 p2 p3 (notSet_ok hs)) (comp_run hi hg hsl ht he h sr er post)⟩
theorem ss_setLc {i : Nat} {y : Str} {py spos : Pos} {fl : Bool} (hc : X.calm = true) (hN : X.N.Nodup) (hy : X.N[i]? = some y) (hyl : X.env.scope.names.lookup y = some .local)
    (hsw : swapsWith (.ListComp elt [⟨tg, iter, ifs, 0⟩] scope pos) (some (.Name y py)) spos.line X.env = pure true) (hi : SI g X W tg iter mi) (ok : BlkOk X.N X.env.scope scope ow) (hg : ∀ s H C cl fp, SG g (blkX X scope s H C cl fp) tg sl t) (hsl : ∀ i ∈ sl, i ∈ ow.map (·.2))
    (ht : STs g X scope ifs c) (he : ∀ s H C cl fp, SE g (blkX X scope s H C cl fp) W0 elt el) (hs : notSet iter = true) : SS g X W (.Assign [.Name y py] (.ListComp elt [⟨tg, iter, ifs, 0⟩] scope pos) spos) (sAsg (gNm i fl) (mComp mi t c el (ow.map (·.2)))) := by
  obtain ⟨p1, p2, p3⟩ := comp_parts (elt := elt) hg ht
  refine ⟨fun F as ρ μ σ H D fl' ρ' μ' h sr er post => wS (ps_setLc hc hN hy hyl hsw pi_wp ok p1 p2 p3 (notSet_ok hs)) ?_⟩
  show tLc (wpI X tg iter) (fun v σ H Q => ∀ s H' C cl fp, wpG (blkX X scope s H' C cl fp) tg v σ H Q) (ttOf X scope ifs) (fun σ H Q => ∀ s H' C cl fp, wpE (blkX X scope s H' C cl fp) elt σ H Q) (ow.map (·.2)) σ H fun x H1 => gName i x σ H1 D.nx
  rcases exThen_some (show exThen _ _ _ = some (fl', ρ', μ') from h) with ⟨x, h1, h2, h3⟩ | ⟨s, μ1, h1, h2⟩
  · dsimp only at h1 h2 h3
    subst h2 h3
    exact comp_run hi hg hsl ht he h1 sr er (post.err er)
  · refine comp_run hi hg hsl ht he h1 sr er fun F1 as1 v H1 x1 sr1 ra1 => ?_
    obtain ⟨F2, as2, x2, sr2, rs2⟩ := own_ok fl sr1 ra1
    cases h2
    exact post F2 as2 _ H1 (x1.trans x2) sr2 (((er.mono x1).mono x2).set rs2)
end

/-! ### stores to places -/
def gSubM (o i : ME) : MG := fun s ρ μ => match toD μ (rt s) with
  | some (d, μ1) => (match o ρ μ1 with
    | some (.ok so, μ2) => (match i ρ μ2 with
      | some (.ok si, μ3) => (match rt so, vw μ3 si with
        | .cell k, some (.int j) => (match μ3[k]? with
          | some (.lst ds) => (match ixN ds.length j with
            | some p => some (ρ, μ3.set k (.lst (ds.set p d)))
            | none => none)
          | some (.pot j0 ds) => (match ixN (ds.length + 1) j with
            | some (p + 1) => some (ρ, μ3.set k (.pot j0 (ds.set p d)))
            | _ => none)
          | _ => none)
        | _, _ => none)
      | _ => none)
    | _ => none)
  | none => none
section
variable {g : G} {X : Cx} {W : WX} {o i : Expr} {mo mi : ME} {pos : Pos}
theorem sub_asg {o i : Expr} {pos : Pos} {env : PySem.Env} (hn : notSlice i = true) (v : Value) : assign (.Subscript o i pos) env v = (do
      let ov ← holding [v] (eval o env)
      let iv ← holding [v, ov] (eval i env)
      standAt pos
      holding [v, ov, iv] (setItem ov iv v)
      release [v, ov, iv] []) := by
  cases i <;> first | rfl | (unfold notSlice at hn; cases hn)
theorem sg_sub (hn : notSlice i = true) (ho : SE g X W o mo) (hi : SE g X W i mi) : SG g X (.Subscript o i pos) [] (gSubM mo mi) := by
  refine ⟨fun F as ρ μ σ H s v Q ρ' μ' h sr er ra k pins st u I ru => ?_⟩
  refine (pg_sub pe_wp pe_wp set_list (sub_asg hn)).run pins st σ H v u Q I ru ?_
  obtain ⟨F0, x0, sr0, rs0⟩ := root_ok sr ra
  unfold gSubM at h
  split at h
  · rename_i d μ1 hd
    obtain ⟨F1, x1, sr1, r1⟩ := toD_rs sr0 rs0 hd
    split at h
    · rename_i so μ2 h2
      refine ho.run F1 as ρ μ1 σ H _ (.ok so) μ2 h2 sr1 ((er.mono x0).mono x1) fun F2 as2 v2 H2 x2 sr2 ra2 => ?_
      obtain ⟨F2', x2', sr2', rs2⟩ := root_ok sr2 ra2
      have xx := ((x0.trans x1).trans x2).trans x2'
      split at h
      · rename_i si μ3 h3
        refine hi.run F2' as2 ρ μ2 σ H2 _ (.ok si) μ3 h3 sr2' (er.mono xx) fun F3 as3 v3 H3 x3 sr3 ra3 => ?_
        split at h
        · rename_i kk j hk hj
          have rk := rs2.mono x3
          rw [hk] at rk
          obtain ⟨a, ha, rfl⟩ := (show ∃ a, as3[kk]? = some a ∧ v2 = .ref a from rk)
          cases vr_int (view_ra sr3 ra3 hj)
          split at h
          · rename_i ds hds
            split at h
            · rename_i p hp
              cases h
              obtain ⟨fa, vs, hv, rv⟩ := sr3.cells _ _ _ ha hds
              refine ⟨a, vs, j, p, rfl, rfl, hv, by rw [rv.length]; exact hp, ?_⟩
              have rd : Rep g F3 d v := ((r1.mono x2.1).mono x2'.1).mono x3.1
              exact k F3 as3 σ _ (xx.trans x3) (sr3.write ha fa ⟨fa, _, upd_same, Reps.set rd p rv⟩) (er.mono (xx.trans x3)) fun _ _ => rfl
            · cases h
          · rename_i j0 ds hds
            split at h
            · rename_i p hp
              cases h
              obtain ⟨fa, b, us, hb, hv, rv⟩ := sr3.cells _ _ _ ha hds
              refine ⟨a, .ref b :: us, j, p + 1, rfl, rfl, hv, by rw [List.length_cons, rv.length]; exact hp, ?_⟩
              have rd : Rep g F3 d v := ((r1.mono x2.1).mono x2'.1).mono x3.1
              exact k F3 as3 σ _ (xx.trans x3) (sr3.write ha fa ⟨fa, b, us.set p v, hb, upd_same, Reps.set rd p rv⟩) (er.mono (xx.trans x3)) fun _ _ => rfl
            · cases h
          · cases h
        · cases h
      · cases h
    · cases h
  · cases h
end

/-! ### stores to an attribute of an instance in the making -/
def putD (f : Str) (d : D) : List (Str × D) → List (Str × D)
  | [] => [(f, d)]
  | (x, y) :: r => if x = f then (x, d) :: r else (x, y) :: putD f d r
theorem putD_rep {g : G} {F : Hp} {f : Str} {d : D} {v : V} (hd : Rep g F d v) : ∀ {fs : List (Str × D)} {vs : List V}, vs.length = fs.length → Reps g F (fs.map (·.2)) vs →
    ∃ vs', putF f v ((fs.map (·.1)).zip vs) = ((putD f d fs).map (·.1)).zip vs' ∧ vs'.length = (putD f d fs).length ∧ Reps g F ((putD f d fs).map (·.2)) vs'
  | [], vs, hl, h => by
    rw [Reps.nil_iff.mp h]
    exact ⟨[v], rfl, rfl, Reps.cons hd Reps.nil⟩
  | (x, y) :: r, vs, hl, h => by
    obtain ⟨u, us, rfl, h1, h2⟩ := Reps.cons_iff.mp h
    by_cases e : x = f
    · refine ⟨v :: us, ?_, ?_, ?_⟩
      · show putF f v ((x, u) :: (r.map (·.1)).zip us) = _
        unfold putD
        rw [if_pos e]
        show (if x = f then (x, v) :: _ else _) = _
        rw [if_pos e]
        rfl
      · unfold putD
        rw [if_pos e]
        simpa using hl
      · unfold putD
        rw [if_pos e]
        exact Reps.cons hd h2
    · obtain ⟨vs', e1, e2, e3⟩ := putD_rep hd (fs := r) (vs := us) (by simpa using hl) h2
      refine ⟨u :: vs', ?_, ?_, ?_⟩
      · show putF f v ((x, u) :: (r.map (·.1)).zip us) = _
        unfold putD
        rw [if_neg e]
        show (if x = f then _ else (x, u) :: putF f v _) = _
        rw [if_neg e, e1]
        rfl
      · unfold putD
        rw [if_neg e, List.length_cons, List.length_cons, e2]
      · unfold putD
        rw [if_neg e]
        exact Reps.cons h1 e3
def sFldM (n : Nat) (f : Str) (o m : ME) : MS := fun ρ μ => exThen (m ρ μ) ρ fun s μ1 => match toD μ1 (rt s) with
  | some (d, μ2) => exThen (o ρ μ2) ρ fun so μ3 => match rt so with
    | .cell k => (match μ3[k]? with
      | some (.ins c fs) => if c < n ∧ fs.length < 1000 then some (.nx, ρ, μ3.set k (.ins c (putD f d fs))) else none
      | _ => none)
    | _ => none
  | none => none
theorem swaps_attr {e o : Expr} {f : Str} {p : Pos} {l : Nat} {env : PySem.Env} : swapsWith e (some (.Attribute o f p)) l env = pure false := by
  cases e <;> rfl
section
variable {g : G} {X : Cx} {W : WX} {o e : Expr} {mo m : ME} {f : Str} {pos pos' : Pos} {n : Nat}
theorem ss_fld (hK : g.K = X.K) (hcl : ∀ c, c < n → Cls g.K (g.cad c) ∧ NoAttr g.K (g.cad c) f) (ho : SE g X W o mo) (he : SE g X W e m) : SS g X W (.Assign [.Attribute o f pos'] e pos) (sFldM n f mo m) := by
  refine ⟨fun F as ρ μ σ H D fl ρ' μ' h sr er post => wS (ps_fld pe_wp pe_wp swaps_attr) ?_⟩
  refine he.st (show exThen _ _ _ = some (fl, ρ', μ') from h) sr er post fun s μ1 F1 as1 v H1 h1 x1 sr1 er1 ra1 => ?_
  obtain ⟨F2, x2, sr2, rs2⟩ := root_ok sr1 ra1
  split at h1
  · rename_i d μ2 hd
    obtain ⟨F3, x3, sr3, r3⟩ := toD_rs sr2 rs2 hd
    have xx := x2.trans x3
    refine ho.st h1 sr3 (er1.mono xx) (post.ext (x1.trans xx)) fun so μ4 F4 as4 v4 H4 h4 x4 sr4 er4 ra4 => ?_
    obtain ⟨F5, x5, sr5, rs5⟩ := root_ok sr4 ra4
    split at h4
    · rename_i k hk
      rw [hk] at rs5
      obtain ⟨a, ha, rfl⟩ := (show ∃ a, as4[k]? = some a ∧ v4 = .ref a from rs5)
      split at h4
      · rename_i c fs hc
        split at h4
        · rename_i hz
          cases h4
          obtain ⟨fa, dx, vs, h6, h7, h8⟩ := sr5.cells _ _ _ ha hc
          obtain ⟨c1, c2⟩ := hcl c hz.1
          have hlen : ((fs.map (·.1)).zip vs).length < 1000 := by rw [List.length_zip, List.length_map, h7, Nat.min_self]; exact hz.2
          obtain ⟨vs', e1, e2, e3⟩ := putD_rep (f := f) ((r3.mono x4.1).mono x5.1) h7 h8
          refine ⟨a, _, dx, _, rfl, h6, hK ▸ c1, hK ▸ c2, hlen, ?_⟩
          rw [e1]
          exact post F5 as4 σ _ (((x1.trans xx).trans x4).trans x5) (sr5.write ha fa ⟨fa, dx, vs', upd_same, e2, e3⟩) (er4.mono x5)
        · cases h4
      · cases h4
    · cases h4
  · cases h1
end

/-! ### an operator's store to a name -/
def sAug (op : D → D → Option S) (i : Nat) (m : ME) : MS := fun ρ μ => match ρ[i]? with
  | some (some (.val x)) => exThen (m ρ μ) ρ fun s μ1 => (match vw μ1 s with
    | some y => (match op x y with
      | some (.val z) => some (.nx, ρ.set i (some (.val z)), μ1)
      | _ => none)
    | none => none)
  | _ => none
def dIAdd : D → D → Option S
  | .int i, .int j => some (.val (.int (i + j)))
  | .str s, .str t => if s.length + t.length ≤ sizeLine then some (.val (.str (s ++ t))) else none
  | _, _ => none
def dISub : D → D → Option S
  | .int i, .int j => some (.val (.int (i - j)))
  | _, _ => none
section
variable {g : G} {X : Cx} {W : WX} {e : Expr} {m : ME} {pos pos' : Pos}
theorem ok_iadd : OpOk g X (inplaceOp .Add) dIAdd := by
  intro x y s F as μ H v u Q e sr hx hy k
  unfold dIAdd at e
  split at e
  · cases e
    cases vr_int hx
    cases vr_int hy
    exact oc iop_add ⟨_, _, rfl, rfl, k F as _ H .refl sr ra_int⟩
  · split at e
    · rename_i hz
      cases e
      cases vr_str hx
      cases vr_str hy
      exact oc iop_add_str ⟨_, _, rfl, rfl, hz, k F as _ H .refl sr ra_str⟩
    · cases e
  · cases e
theorem ok_isub : OpOk g X (inplaceOp .Sub) dISub := by
  intro x y s F as μ H v u Q e sr hx hy k
  unfold dISub at e
  split at e
  · cases e
    cases vr_int hx
    cases vr_int hy
    exact oc iop_sub ⟨_, _, rfl, rfl, k F as _ H .refl sr ra_int⟩
  · cases e
theorem ss_aug {i : Nat} {x : Str} {op : Operator} {dop : D → D → Option S} (hN : X.N.Nodup) (hi : X.N[i]? = some x) (hx : Loc X.env.scope x) (hf : X.fn x = true ∨ X.env.scope.names.lookup x = some .local) (ho : OpOk g X (inplaceOp op) dop) (he : SE g X W e m) :
    SS g X W (.AugAssign (.Name x pos') op e pos) (sAug dop i m) := by
  refine ⟨fun F as ρ μ σ H D fl ρ' μ' h sr er post => wS (ps_aug (ti := rcan X (inplaceOp op)) hN hi hx pe_wp (fun pins s σ H x y v u Q I rx ry h => h pins s σ v u I rx ry) hf) ?_⟩
  unfold sAug at h
  split at h
  · rename_i z hz
    obtain ⟨v, e1, e2⟩ := er.at_ i _ hz
    refine ⟨v, e1, ?_⟩
    refine he.st h sr er post fun s μ1 F1 as1 u H1 h1 x1 sr1 er1 ra1 => ?_
    split at h1
    · rename_i y hy
      split at h1
      · rename_i w hw
        cases h1
        refine ho z y _ F1 as1 _ H1 v u _ hw sr1 (.inr (Rep.mono x1.1 e2)) (view_ra sr1 ra1 hy) fun F' as' w' H' e' r' q => ?_
        exact post F' as' _ H' (x1.trans e') r' ((er1.mono e').set q)
      · cases h1
    · cases h1
  · cases h
end

/-! ### raise -/
def sRaise (c : Nat) : MS := fun ρ μ => some (.ex (.own c []), ρ, μ)
/-- an own exception class without __init__, as the head has it -/
structure XcF (g : G) (K : PySem.W.Frag) (c : Nat) : Prop where
  ok : ∃ (B newId initId : String) (bmB : List Value), ExcBaseFacts B newId initId bmB ∧ PySem.W.excIn K (g.cad c) bmB newId = true
  kp : PySem.W.keepIn K (.ref (g.cad c)) = true
  b : PySem.W.subIn K (.ref (g.cad c)) (.type "BaseException") = some true
  t : PySem.W.typeIn K (.ref (g.cad c)) = some (.type "type")
theorem ss_raise {g : G} {X : Cx} {W : WX} {c : Nat} {x m : Str} {j : Nat} {p p2 pos pos' : Pos} (hc : X.calm = true) (tk : Takes X W) (xf : XcF g X.K c) (hg : Gl X x) (hm : X.mg x = some (.ref (g.cad c))) (hdb : (x == ("__debug__" : Str)) = false) :
    SS g X W (.Raise (some (.Call (.Name x p) [.Constant (.str m) j p2] [] pos)) none pos') (sRaise c) := by
  obtain ⟨B, newId, initId, bmB, fB, q⟩ := xf.ok
  refine ⟨fun F as ρ μ σ H D fl ρ' μ' h sr er post => wS (ps_raise hc tk (pmk_own fB q hm xf.kp (raises_own xf.b xf.t) hg hdb)) ?_⟩
  cases h
  exact post F as σ _ none H .refl sr er ⟨rfl, .inl ⟨rfl, rfl⟩⟩
end Sz

set_option Elab.async false
set_option linter.all false
set_option maxRecDepth 100000
set_option maxHeartbeats 4000000
/-! Sz J: contexts, looks, a def as a whole. -/
namespace Sz
open PySem PySem.Spec L2

/-! ### what isn't covered -/
def mNo : ME := fun _ _ => none
def tNo : MT := fun _ _ => none
def sNo : MS := fun _ _ => none
section
variable {g : G} {X : Cx} {W : WX}
theorem se_no {e : Expr} : SE g X W e mNo := ⟨fun F as ρ μ σ H Q r μ' h => by cases h⟩
theorem st_no {e : Expr} : STe g X W e tNo := ⟨fun F as ρ μ σ H Q r μ' h => by cases h⟩
theorem ss_no {s : Stmt} : SS g X W s sNo := ⟨fun F as ρ μ σ H D fl ρ' μ' h => by cases h⟩
theorem sb_no {s : List Stmt} : SB g X W s sNo := ⟨fun F as ρ μ σ H D fl ρ' μ' h => by cases h⟩
end

/-! ### where code runs -/
/-- the module as the head has it: names that stand for nothing of its own, names of defs and classes -/
structure Tb (g : G) (mg : Str → Option Value) (frees globs : List Str) : Prop where
  fr : ∀ x, frees.contains x = true → mg x = none
  gl : ∀ x, globs.contains x = true → mg x = some (.ref (He.ga g.K x)) ∧ PySem.W.keepIn g.K (.ref (He.ga g.K x)) = true
structure Ct (g : G) (P : Program) (w : World) (mg : Str → Option Value) (base : Heap) (k : Nat) (N : List Str) (sc : Scope) (own cm gb : Bool) (X : Cx) (W : WX) : Prop where
  hP : X.prog = P
  hw : X.w = w
  hK : X.K = g.K
  hmg : X.mg = mg
  hb : X.base = base
  hN : X.N = N
  nd : N.Nodup
  kd : sc.kind = .function
  hsc : X.env.scope = sc
  calm : cm = true → X.calm = true
  gd : gb = true → X.A.guards = some []
  room : cm = true → Room k X.A
  hu : X.A.units + 200 < cLine
  stk : own = true → X.stack = X.env :: X.outer
  frm : own = true → X.env.frame = some X.env.locals
  tk : Takes X W
  fn : own = true → ∀ x, X.fn x = true
  po : own = true → cm = true → PassesOwn (model X.prog X.w) X.A X.env X.xe
  ex : own = true → X.ex = []
def visB (sc : Scope) (x : Str) : Bool := match sc.names.lookup x with
  | some .local => true
  | some .cell => true
  | some .free => true
  | _ => false
def varB (N : List Str) (sc : Scope) (i : Nat) (x : Str) : Bool := (match N[i]? with
  | some y => y == x
  | none => false) && (visB sc x && (!(x == ("__debug__" : Str)) && !(x == ("__classdict__" : Str))))
def setB (N : List Str) (sc : Scope) (own : Bool) (i : Nat) (x : Str) : Bool := (match N[i]? with
  | some y => y == x
  | none => false) && (match sc.names.lookup x with
  | some .local => true
  | some .cell => own
  | _ => false)
def locB (N : List Str) (sc : Scope) (i : Nat) (x : Str) : Bool := (match N[i]? with
  | some y => y == x
  | none => false) && (match sc.names.lookup x with
  | some .local => true
  | _ => false)
def glB (sc : Scope) (x : Str) : Bool := (match sc.names.lookup x with
  | some .globalImplicit => true
  | _ => false) && (!(x == ("__debug__" : Str)) && !(x == ("__name__" : Str)))
section
variable {g : G} {P : Program} {w : World} {mg : Str → Option Value} {base : Heap} {k : Nat} {N : List Str} {sc : Scope} {own cm gb : Bool} {X : Cx} {W : WX} {i : Nat} {x : Str}
theorem at_of {N : List Str} {i : Nat} {x : Str} (h : (match N[i]? with
  | some y => y == x
  | none => false) = true) : N[i]? = some x := by
  split at h
  · rename_i y e
    rw [e, beq_iff_eq.mp h]
  · cases h
theorem Ct.K (c : Ct g P w mg base k N sc own cm gb X W) : g.K = X.K := c.hK.symm
theorem Ct.nd' (c : Ct g P w mg base k N sc own cm gb X W) : X.N.Nodup := by rw [c.hN]; exact c.nd
theorem Ct.kd' (c : Ct g P w mg base k N sc own cm gb X W) : X.env.scope.kind = .function := by rw [c.hsc]; exact c.kd
theorem Ct.at (c : Ct g P w mg base k N sc own cm gb X W) (h : (match N[i]? with
  | some y => y == x
  | none => false) = true) : X.N[i]? = some x := by rw [c.hN]; exact at_of h
theorem Ct.var {pos : Pos} (c : Ct g P w mg base k N sc own cm gb X W) (h : varB N sc i x = true) : SE g X W (.Name x pos) (mVar i) := by
  unfold varB at h
  simp only [Bool.and_eq_true, Bool.not_eq_true'] at h
  obtain ⟨h1, h2, h3, h4⟩ := h
  refine se_var (c.at h1) ?_ h3 h4
  unfold Vis
  rw [c.hsc]
  unfold visB at h2
  split at h2
  · rename_i e; exact .inl e
  · rename_i e; exact .inr (.inl e)
  · rename_i e; exact .inr (.inr e)
  · cases h2
theorem Ct.locs (c : Ct g P w mg base k N sc own cm gb X W) (h : setB N sc own i x = true) : X.N[i]? = some x ∧ L2.Loc X.env.scope x ∧ (X.fn x = true ∨ X.env.scope.names.lookup x = some .local) := by
  unfold setB at h
  rw [Bool.and_eq_true] at h
  refine ⟨c.at h.1, ?_⟩
  have h2 := h.2
  unfold L2.Loc
  rw [c.hsc]
  split at h2
  · rename_i e
    exact ⟨.inl e, .inr e⟩
  · rename_i e
    exact ⟨.inr e, .inl (c.fn h2 x)⟩
  · cases h2
theorem Ct.loc1 (c : Ct g P w mg base k N sc own cm gb X W) (h : locB N sc i x = true) : X.N[i]? = some x ∧ X.env.scope.names.lookup x = some .local := by
  unfold locB at h
  rw [Bool.and_eq_true] at h
  refine ⟨c.at h.1, ?_⟩
  have h2 := h.2
  rw [c.hsc]
  split at h2
  · assumption
  · cases h2
theorem Ct.gl (c : Ct g P w mg base k N sc own cm gb X W) (h : glB sc x = true) : Gl X x ∧ (x == ("__debug__" : Str)) = false ∧ x ≠ "__name__" := by
  unfold glB at h
  simp only [Bool.and_eq_true, Bool.not_eq_true'] at h
  obtain ⟨h1, h2, h3⟩ := h
  refine ⟨?_, h2, fun e => by rw [e] at h3; cases h3⟩
  show X.env.scope.names.lookup x = _
  rw [c.hsc]
  split at h1
  · assumption
  · cases h1
variable {frees globs : List Str}
/-- a builtin's call -/
theorem Ct.callB {id : String} {op : List D → Option S} {e : Expr} {es : List Expr} {p pos : Pos} {ms : List ME} (c : Ct g P w mg base k N sc own cm gb X W) (T : Tb g mg frees globs) (ho : CallOk g X (.builtin id) op) (hg : glB sc x = true) (hf : frees.contains x = true)
    (hv : bootBuiltins x = some (.builtin id)) (hst : (e :: es).all notStar = true) (ha : SA g X W (e :: es) (mArgs ms)) : SE g X W (.Call (.Name x p) (e :: es) [] pos) (mCallB op ms) :=
  se_callB ho (c.gl hg).1 (by rw [c.hmg]; exact T.fr x hf) hv (c.gl hg).2.2 (c.gl hg).2.1 hst ha
theorem Ct.callTy {id : String} {op : List D → Option S} {e : Expr} {es : List Expr} {p pos : Pos} {ms : List ME} (c : Ct g P w mg base k N sc own cm gb X W) (T : Tb g mg frees globs) (ho : CallOk g X (.type id) op) (hg : glB sc x = true) (hf : frees.contains x = true)
    (hv : bootBuiltins x = some (.type id)) (hst : (e :: es).all notStar = true) (ha : SA g X W (e :: es) (mArgs ms)) : SE g X W (.Call (.Name x p) (e :: es) [] pos) (mCallB op ms) :=
  se_callTy ho (c.gl hg).1 (by rw [c.hmg]; exact T.fr x hf) hv (c.gl hg).2.2 (c.gl hg).2.1 hst ha
/-- a builtin type's name -/
theorem Ct.tyName {id : String} {p : Pos} (c : Ct g P w mg base k N sc own cm gb X W) (T : Tb g mg frees globs) (hg : glB sc x = true) (hf : frees.contains x = true) (hv : bootBuiltins x = some (.type id)) : SE g X W (.Name x p) (mK (.ty id)) :=
  se_k (v := .ty id) (pe_bltn (c.gl hg).1 (by rw [c.hmg]; exact T.fr x hf) hv rfl (c.gl hg).2.2 (c.gl hg).2.1) fun F => by unfold Rep; rfl
theorem Ct.clsName {n : Nat} {p : Pos} (c : Ct g P w mg base k N sc own cm gb X W) (T : Tb g mg frees globs) (hg : glB sc x = true) (hf : globs.contains x = true) (hc : g.cad n = He.ga g.K x) : SE g X W (.Name x p) (mK (.cls n)) :=
  se_k (v := .ref (He.ga g.K x)) (pe_glob (c.gl hg).1 (by rw [c.hmg]; exact (T.gl x hf).1) rfl (c.gl hg).2.1) fun F => by unfold Rep; rw [hc]

/-! ### a def, its promise -/
structure FnC (gb : Bool) (g : G) (P : Program) (w : World) (mg : Str → Option Value) (base : Heap) (fi : FnI) (k : Nat) (f : Addr) (sh : List (Nat × List Str)) : Prop where
  ok : ∃ fd dvs, FnG gb P w g.K mg base (CX P w) k f fd fi.ps (spOf g fi.ps.length fi.sem) ∧ (∀ q ∈ sh, Bnd g.K fd fi.ps q.1 q.2 dvs) ∧ ∀ F, Reps g F fi.dfl dvs
theorem Ct.fnK {gc : Bool} {fi : FnI} {f : Addr} {n : Nat} {ks : List Str} {j : Nat} {sh : List (Nat × List Str)} (c : Ct g P w mg base k N sc own true gb X W) (F : FnC gc g P w mg base fi j f sh) (h : (sh.contains (n, ks)) = true) : FnK gc g X fi j f n ks := by
  obtain ⟨fd, dvs, h1, h2, h3⟩ := F.ok
  refine ⟨fd, dvs, ?_, ?_, h3⟩
  · rw [c.hP, c.hw, c.hK, c.hmg, c.hb]
    exact h1
  · rw [c.hK]
    exact h2 (n, ks) (List.contains_iff_mem.mp h)
/-- f(..) of an own def -/
theorem Ct.call {gc : Bool} {fi : FnI} {n j : Nat} {ks : List Str} {sh : List (Nat × List Str)} {p pos : Pos} {es : List Expr} {kws : List Keyword} {ms kms : List ME} (c : Ct g P w mg base k N sc own true gb X W) (T : Tb g mg frees globs) (F : FnC gc g P w mg base fi j (He.ga g.K x) sh) (hgd : leB gc gb = true)
    (hj : Nat.ble j k = true) (hs : sh.contains (n, ks) = true) (hg : glB sc x = true) (hf : globs.contains x = true) (hks : kwNames kws = some ks) (ha : SAs g X W es ms) (hkw : SK g X W kws (mArgs kms)) :
    SE g X W (.Call (.Name x p) es kws pos) (mCallF fi n ks ms kms) :=
  se_call (c.fnK F hs) ((c.room rfl).mono (Nat.le_of_ble_eq_true hj)) (fun e => c.gd (leB_ok hgd e)) c.tk (c.gl hg).1 (by rw [c.hmg]; exact (T.gl x hf).1) (by rw [c.hK]; exact (T.gl x hf).2) (c.gl hg).2.1 hks ha hkw
/-- C(..) -/
theorem Ct.make {gc : Bool} {mi : MkI} {n j : Nat} {ks : List Str} {sh : List (Nat × List Str)} {p pos : Pos} {es : List Expr} {kws : List Keyword} {ms kms : List ME} {f : Addr} (c : Ct g P w mg base k N sc own true gb X W) (T : Tb g mg frees globs) (F : FnC gc g P w mg base mi.fi j f sh) (hgd : leB gc gb = true)
    (M : Mk g.K (g.cad mi.c) f) (hfl : g.fl mi.c = mi.fl) (hc : g.cad mi.c = He.ga g.K x)
    (hj : Nat.ble (j + 1) k = true) (hs : sh.contains (n + 1, ks) = true) (hg : glB sc x = true) (hf : globs.contains x = true) (hks : kwNames kws = some ks) (ha : SAs g X W es ms) (hkw : SK g X W kws (mArgs kms)) :
    SE g X W (.Call (.Name x p) es kws pos) (mMake mi n ks ms kms) :=
  se_make (c.fnK F hs) ((c.room rfl).mono (Nat.le_of_ble_eq_true hj)) (fun e => c.gd (leB_ok hgd e)) c.tk (by rw [c.hK]; exact M) hfl (c.gl hg).1 (by rw [c.hmg, hc]; exact (T.gl x hf).1) (c.gl hg).2.1 hks ha hkw
/-- a name's store -/
theorem Ct.sgName {pos : Pos} {fl : Bool} (c : Ct g P w mg base k N sc own cm gb X W) (h : setB N sc own i x = true) : SG g X (.Name x pos) [i] (gNm i fl) :=
  sg_name c.nd' (c.locs h).1 (c.locs h).2.1 (c.locs h).2.2
theorem Ct.set {fl : Bool} {e : Expr} {m : ME} {pos pos' : Pos} (c : Ct g P w mg base k N sc own cm gb X W) (h : setB N sc own i x = true) (hc : notComp e = true) (he : SE g X W e m) : SS g X W (.Assign [.Name x pos'] e pos) (sAsg (gNm i fl) m) :=
  ss_set c.nd' (c.locs h).1 (c.locs h).2.1 (c.locs h).2.2 (swaps_no hc) he
theorem Ct.aug {e : Expr} {m : ME} {pos pos' : Pos} {op : Operator} {dop : D → D → Option S} (c : Ct g P w mg base k N sc own cm gb X W) (h : setB N sc own i x = true) (ho : OpOk g X (inplaceOp op) dop) (he : SE g X W e m) :
    SS g X W (.AugAssign (.Name x pos') op e pos) (sAug dop i m) :=
  ss_aug c.nd' (c.locs h).1 (c.locs h).2.1 (c.locs h).2.2 ho he
theorem Ct.par2 {j : Nat} {y : Str} {a b : Expr} {ms : List (Bool × ME)} {px py pt pos : Pos} {kt k2 pt2} (c : Ct g P w mg base k N sc own true gb X W) (hx : locB N sc i x = true) (hy : locB N sc j y = true) (hij : Nat.beq i j = false)
    (hw : decide (swapOf sc [.Name x px, .Name y py] [a, b] = some (some [x, y])) = true) (ha : SA g X W [a, b] (mOwns ms)) :
    SS g X W (.Assign [.Tuple [.Name x px, .Name y py] kt pt] (.Tuple [a, b] k2 pt2) pos) (sPar2 i j ms) :=
  ss_par2 (c.calm rfl) c.nd' (c.loc1 hx).1 (c.loc1 hy).1 (Nat.ne_of_beq_eq_false hij) (c.loc1 hx).2 (c.loc1 hy).2 ha (swapOf_ok c.kd' c.hsc (of_decide_eq_true hw))
theorem Ct.par3 {j l : Nat} {y z : Str} {a b d : Expr} {ms : List (Bool × ME)} {px py pz pt pos : Pos} {kt k2 pt2} (c : Ct g P w mg base k N sc own true gb X W) (hx : locB N sc i x = true) (hy : locB N sc j y = true) (hz : locB N sc l z = true)
    (hij : Nat.beq i j = false) (hil : Nat.beq i l = false) (hjl : Nat.beq j l = false) (hw : decide (swapOf sc [.Name x px, .Name y py, .Name z pz] [a, b, d] = some (some [x, y, z])) = true) (ha : SA g X W [a, b, d] (mOwns ms)) :
    SS g X W (.Assign [.Tuple [.Name x px, .Name y py, .Name z pz] kt pt] (.Tuple [a, b, d] k2 pt2) pos) (sPar3 i j l ms) :=
  ss_par3 (c.calm rfl) c.nd' (c.loc1 hx).1 (c.loc1 hy).1 (c.loc1 hz).1 (Nat.ne_of_beq_eq_false hij) (Nat.ne_of_beq_eq_false hil) (Nat.ne_of_beq_eq_false hjl) (c.loc1 hx).2 (c.loc1 hy).2 (c.loc1 hz).2 ha (swapOf_ok c.kd' c.hsc (of_decide_eq_true hw))
/-- (a, b, ..) = value, no parts of a tuple written out -/
def plainRhs : Expr → Bool
  | .Tuple _ _ _ => false
  | e => notComp e
theorem Ct.tupS {es : List Expr} {kt : Nat} {pt pos : Pos} {sl : List Nat} {ts : List MG} {e : Expr} {m : ME} (c : Ct g P w mg base k N sc own true gb X W) (hs : SGs g X es sl ts) (hp : plainRhs e = true) (he : SE g X W e m) :
    SS g X W (.Assign [.Tuple es kt pt] e pos) (sAsg (gTu ts) m) := by
  refine ss_asgT (sg_tup c.K (c.calm rfl) hs) ?_ ?_ rfl he
  · cases e <;> first | rfl | (cases hp)
  · cases e <;> first | rfl | (cases hp)
theorem Ct.subS {o i : Expr} {mo mi m : ME} {e : Expr} {pos pos' : Pos} (c : Ct g P w mg base k N sc own cm gb X W) (hn : notSlice i = true) (ho : SE g X W o mo) (hi : SE g X W i mi) (hp : plainRhs e = true) (he : SE g X W e m) : SS g X W (.Assign [.Subscript o i pos'] e pos) (sAsg (gSubM mo mi) m) := by
  refine ss_asgT (sg_sub hn ho hi) ?_ ?_ rfl he
  · cases e <;> first | rfl | (cases hp)
  · cases e <;> first | rfl | (cases hp)
/-- a comprehension's block -/
theorem Ct.blk (c : Ct g P w mg base k N sc own true gb X W) {scope : Scope} (hk : scope.kind = .function) (s : Shared) (H : Hp) (C : Addr) (cl : List (Str × Addr)) (fp : List Addr) : Ct g P w mg base k N (relS scope sc) false true gb (blkX X scope s H C cl fp) W0 := by
  refine ⟨c.hP, c.hw, c.hK, c.hmg, c.hb, c.hN, c.nd, hk, ?_, fun _ => c.calm rfl, c.gd, fun _ => c.room rfl, c.hu, (fun h => by cases h), (fun h => by cases h), ?_, (fun h => by cases h), (fun h => by cases h), (fun h => by cases h)⟩
  · rw [← c.hsc]
    rfl
  · rintro u s' ⟨_, _, _, _, _, _, _, _, _, _, _, _, _, _, _, _, w⟩
    exact w.elim
def kindF : Scope → Bool := fun s => match s.kind with
  | .function => true
  | _ => false
theorem kindF_ok {s : Scope} (h : kindF s = true) : s.kind = .function := by
  unfold kindF at h
  split at h
  · assumption
  · cases h
theorem Ct.comp0 {tg iter elt : Expr} {scope : Scope} {mi : MI} {t : MG} {el : ME} {pos : Pos} {ow : List (Str × Nat)} {sl : List Nat} (c : Ct g P w mg base k N sc own true gb X W) (hi : SI g X W tg iter mi) (ok : blkC N sc scope ow = true) (hk : kindF scope = true)
    (hsl : sl.all (fun i => (ow.map (·.2)).contains i) = true) (hs : notSet iter = true)
    (hg : ∀ X W, Ct g P w mg base k N (relS scope sc) false true gb X W → SG g X tg sl t) (he : ∀ X W, Ct g P w mg base k N (relS scope sc) false true gb X W → SE g X W elt el) :
    SE g X W (.ListComp elt [⟨tg, iter, [], 0⟩] scope pos) (mComp mi t tTrue el (ow.map (·.2))) := by
  have hk' := kindF_ok hk
  exact se_comp (c.calm rfl) c.nd' hi (by rw [c.hN, c.hsc]; exact blkOk_by ok) (fun s H C cl fp => hg _ _ (c.blk hk' s H C cl fp)) (fun i h => List.contains_iff_mem.mp (List.all_eq_true.mp hsl i h)) .nil (fun s H C cl fp => he _ _ (c.blk hk' s H C cl fp)) hs
theorem Ct.comp1 {tg iter elt e : Expr} {scope : Scope} {mi : MI} {t : MG} {cm : MT} {el : ME} {pos : Pos} {ow : List (Str × Nat)} {sl : List Nat} (c : Ct g P w mg base k N sc own true gb X W) (hi : SI g X W tg iter mi) (ok : blkC N sc scope ow = true) (hk : kindF scope = true)
    (hsl : sl.all (fun i => (ow.map (·.2)).contains i) = true) (hs : notSet iter = true)
    (hg : ∀ X W, Ct g P w mg base k N (relS scope sc) false true gb X W → SG g X tg sl t) (ht : ∀ X W, Ct g P w mg base k N (relS scope sc) false true gb X W → STe g X W e cm) (he : ∀ X W, Ct g P w mg base k N (relS scope sc) false true gb X W → SE g X W elt el) :
    SE g X W (.ListComp elt [⟨tg, iter, [e], 0⟩] scope pos) (mComp mi t cm el (ow.map (·.2))) := by
  have hk' := kindF_ok hk
  exact se_comp (c.calm rfl) c.nd' hi (by rw [c.hN, c.hsc]; exact blkOk_by ok) (fun s H C cl fp => hg _ _ (c.blk hk' s H C cl fp)) (fun i h => List.contains_iff_mem.mp (List.all_eq_true.mp hsl i h)) (.one fun s H C cl fp => ht _ _ (c.blk hk' s H C cl fp)) (fun s H C cl fp => he _ _ (c.blk hk' s H C cl fp)) hs
def swB (sc scope : Scope) (t : Str) (py pos : Pos) : Bool := sc.names.lookup t == some .local && py.line == pos.line && !(scope.names.any fun (n, k) => n == t && (k == .local || k == .cell))
theorem sw_eq {env : PySem.Env} {sc scope : Scope} {elt : Expr} {gs : List Comprehension} {t : Str} {py pos : Pos} {l : Nat} (hk : sc.kind = .function) (hs : env.scope = sc) : swapsWith (.ListComp elt gs scope pos) (some (.Name t py)) l env = pure (swB sc scope t py pos) := by
  have hb : env.blockKind = .function := by unfold PySem.Env.blockKind; rw [hs, hk]; rfl
  show pure (env.blockKind == .function && env.kindOf t == some .local && py.line == pos.line && !(scope.names.any fun (n, k) => n == t && (k == .local || k == .cell))) = _
  rw [hb]
  unfold swB
  have hkf : env.kindOf t = sc.names.lookup t := by rw [← hs]; rfl
  rw [hkf]
  rfl
theorem Ct.comp0S {y : Str} {py spos : Pos} {fl : Bool} {tg iter elt : Expr} {scope : Scope} {mi : MI} {t : MG} {el : ME} {pos : Pos} {ow : List (Str × Nat)} {sl : List Nat} (c : Ct g P w mg base k N sc own true gb X W) (hl : locB N sc i y = true) (hi : SI g X W tg iter mi) (ok : blkC N sc scope ow = true) (hk : kindF scope = true)
    (hsl : sl.all (fun i => (ow.map (·.2)).contains i) = true) (hs : notSet iter = true) (hsw : swB sc scope y py pos = true)
    (hg : ∀ X W, Ct g P w mg base k N (relS scope sc) false true gb X W → SG g X tg sl t) (he : ∀ X W, Ct g P w mg base k N (relS scope sc) false true gb X W → SE g X W elt el) :
    SS g X W (.Assign [.Name y py] (.ListComp elt [⟨tg, iter, [], 0⟩] scope pos) spos) (sAsg (gNm i fl) (mComp mi t tTrue el (ow.map (·.2)))) := by
  have hk' := kindF_ok hk
  exact ss_setLc (c.calm rfl) c.nd' (c.loc1 hl).1 (c.loc1 hl).2 ((sw_eq c.kd c.hsc).trans (congrArg pure hsw)) hi (by rw [c.hN, c.hsc]; exact blkOk_by ok) (fun s H C cl fp => hg _ _ (c.blk hk' s H C cl fp)) (fun i h => List.contains_iff_mem.mp (List.all_eq_true.mp hsl i h)) .nil (fun s H C cl fp => he _ _ (c.blk hk' s H C cl fp)) hs
theorem Ct.comp1S {y : Str} {py spos : Pos} {fl : Bool} {tg iter elt e : Expr} {scope : Scope} {mi : MI} {t : MG} {cm : MT} {el : ME} {pos : Pos} {ow : List (Str × Nat)} {sl : List Nat} (c : Ct g P w mg base k N sc own true gb X W) (hl : locB N sc i y = true) (hi : SI g X W tg iter mi) (ok : blkC N sc scope ow = true) (hk : kindF scope = true)
    (hsl : sl.all (fun i => (ow.map (·.2)).contains i) = true) (hs : notSet iter = true) (hsw : swB sc scope y py pos = true)
    (hg : ∀ X W, Ct g P w mg base k N (relS scope sc) false true gb X W → SG g X tg sl t) (ht : ∀ X W, Ct g P w mg base k N (relS scope sc) false true gb X W → STe g X W e cm) (he : ∀ X W, Ct g P w mg base k N (relS scope sc) false true gb X W → SE g X W elt el) :
    SS g X W (.Assign [.Name y py] (.ListComp elt [⟨tg, iter, [e], 0⟩] scope pos) spos) (sAsg (gNm i fl) (mComp mi t cm el (ow.map (·.2)))) := by
  have hk' := kindF_ok hk
  exact ss_setLc (c.calm rfl) c.nd' (c.loc1 hl).1 (c.loc1 hl).2 ((sw_eq c.kd c.hsc).trans (congrArg pure hsw)) hi (by rw [c.hN, c.hsc]; exact blkOk_by ok) (fun s H C cl fp => hg _ _ (c.blk hk' s H C cl fp)) (fun i h => List.contains_iff_mem.mp (List.all_eq_true.mp hsl i h)) (.one fun s H C cl fp => ht _ _ (c.blk hk' s H C cl fp)) (fun s H C cl fp => he _ _ (c.blk hk' s H C cl fp)) hs
end

section
variable {g : G} {P : Program} {w : World} {mg : Str → Option Value} {base : Heap} {k : Nat} {N : List Str} {sc : Scope} {own cm gb : Bool} {X : Cx} {W : WX} {i : Nat} {x : Str}
/-- a comprehension's value to a name, not by the short way -/
theorem Ct.setC {fl : Bool} {elt : Expr} {gs : List Comprehension} {scope : Scope} {m : ME} {pos pos' cpos : Pos} (c : Ct g P w mg base k N sc own cm gb X W) (h : setB N sc own i x = true) (hsw : swB sc scope x pos' cpos = false) (he : SE g X W (.ListComp elt gs scope cpos) m) :
    SS g X W (.Assign [.Name x pos'] (.ListComp elt gs scope cpos) pos) (sAsg (gNm i fl) m) :=
  ss_set c.nd' (c.locs h).1 (c.locs h).2.1 (c.locs h).2.2 ((sw_eq c.kd c.hsc).trans (congrArg pure hsw)) he
theorem Ct.hu64 (c : Ct g P w mg base k N sc own cm gb X W) : X.A.units + 64 < cLine := by have := c.hu; omega
theorem Ct.hu65 (c : Ct g P w mg base k N sc own cm gb X W) : X.A.units + 65 < cLine := by have := c.hu; omega
/-- a tuple written out to a tuple, one by one -/
theorem Ct.tupT {es vs : List Expr} {kt k2 : Nat} {pt p2 pos : Pos} {sl : List Nat} {ts : List MG} {m : ME} (c : Ct g P w mg base k N sc own true gb X W) (hs : SGs g X es sl ts) (hw : decide (swapOf sc es vs = some none) = true) (he : SE g X W (.Tuple vs k2 p2) m) :
    SS g X W (.Assign [.Tuple es kt pt] (.Tuple vs k2 p2) pos) (sAsg (gTu ts) m) :=
  ss_asgT (sg_tup c.K (c.calm rfl) hs) rfl (swapOf_ok c.kd' c.hsc (of_decide_eq_true hw)) rfl he
end

/-! ### a def as a whole -/
def finR (n : Nat) (μ : Sto) : S → Option R
  | .cell k => if k < n then some (.ok (.cell k), μ.take n) else (match μ[k]? with
    | some (.lst ds) => some (.ok (.fr ds), μ.take n)
    | some (.frz d) => some (.ok (.val d), μ.take n)
    | _ => none)
  | .pot (some j) _ ds => if j < n then none else (match μ[j]? with
    | some (.lst is) => some (.ok (.pot none is ds), μ.take n)
    | _ => none)
  | s => some (.ok s, μ.take n)
def finF (n : Nat) : Option (Fl × En × Sto) → Option R
  | some (.nx, _, μ') => some (.ok (.val .non), μ'.take n)
  | some (.rt s, _, μ') => finR n μ' s
  | some (.ex x, _, μ') => some (.error x, μ'.take n)
  | _ => none
def fnSem (nN : Nat) (body : MS) : List S → Sto → Option R := fun ss μ => finF μ.length (body (ss.map some ++ List.replicate (nN - ss.length) none) μ)
section
variable {gb : Bool} {g : G} {P : Program} {w : World} {mg : Str → Option Value} {base : Heap} {k : Nat} {N ps : List Str} {x qual : Str} {params : Arguments} {body : List Stmt} {scope : Scope} {dvs : List V} {kws : List (Str × V)} {f : Addr} {fd : FuncData} {code : MS}
theorem rss_at {F : Hp} {as : List Addr} {ss : List S} {vs : List V} {i : Nat} {s : S} (r : RSs g F as ss vs) (h : ss[i]? = some s) : ∃ v, vs[i]? = some v ∧ RS g F as s v := paired_get r h
theorem er_start {F : Hp} {as : List Addr} {ss : List S} {vs : List V} (r : RSs g F as ss vs) : ER g F as (ss.map some ++ List.replicate (N.length - ss.length) none) (L2.start N vs) := by
  have hl := Paired.length r
  refine ⟨?_, fun i s h => ?_⟩
  · unfold L2.start
    rw [List.length_append, List.length_append, List.length_map, List.length_map, List.length_replicate, List.length_replicate, hl]
    exact Nat.le_refl _
  · by_cases hi : i < ss.length
    · rw [List.getElem?_append_left (by rw [List.length_map]; exact hi), List.getElem?_map] at h
      cases e : ss[i]? with
      | none => rw [e] at h; cases h
      | some s' =>
        rw [e] at h
        cases h
        obtain ⟨v, e1, e2⟩ := rss_at r e
        refine ⟨v, ?_, e2⟩
        unfold L2.start
        rw [List.getElem?_append_left (by rw [List.length_map, ← hl]; exact hi), List.getElem?_map, e1]
        rfl
    · rw [List.getElem?_append_right (by rw [List.length_map]; omega)] at h
      have := List.mem_of_getElem? h
      rw [List.mem_replicate] at this
      exact absurd this.2 (by simp)
theorem ext_back {F F' : Hp} {as as' : List Addr} (x : Ext F as F' as') : Ext F as F' as := ⟨x.1, [], by rw [List.append_nil]⟩
/-- a def's promise from its body -/
theorem by_body {P : Program} {w : World} {K : PySem.W.Frag} {mg : Str → Option Value} {base : Heap} {x qual : Str} {params : Arguments} {body : List Stmt} {scope : Scope} {dvs : List V} {kws : List (Str × V)} {f : Addr} {fd : FuncData} {gb : Bool} {cx : CXT} {N ps : List Str} {k : Nat} {sp : Sp}
    (F : FunD K x qual params body scope dvs kws f fd) (S : FnScope N ps scope) (wide : ∀ vs H Q E, sp vs H Q E → vs.length = ps.length)
    (run : ∀ (cdv : Value) (A : Around) (outer : List Env) (s : Shared) (H : Hp) (vs : List V) (Q : VK) (E : XK), Room k (A.deeper (PyProof.Rows.envOfC qual scope s.heap.objs.size f cdv)) → (gb = true → A.guards = some []) → sp vs H Q E →
      ∃ t, PSs (cxOf cx P w K mg base N qual scope f cdv A outer s H E) body t ∧ t { nx := fun _ H' => Q .non H', rt := Q } (start N vs) H) : FnG gb P w K mg base cx (k + 1) f fd ps sp := by
  obtain ⟨tv, dk, dfv, kwv, dc, pmv, an, cdv, ctv, slots, rfl, found, codeAt, _, _⟩ := F.ex
  refine ⟨wide, fun A fr st H ar us vs Q E room gds en bd rv ask => ?_⟩
  have inHeap : K.In st.heap := en.mod.kin.keeps fun b o q => (en.bs b o q).1
  have noLim : st.heap.NoLimit := en.mod.nolimit.keeps fun b o q => (en.bs b o q).1
  have parKind : ∀ y ∈ ps.zip us, scope.names.lookup y.1 = some .local ∨
      (scope.names.lookup y.1 = some .cell ∧ ((cellsFrom (st.heap.objs.size + 1) scope.names []).lookup y.1).isSome = true) := by
    rintro ⟨n, v⟩ hy
    rcases S.par n (List.of_mem_zip hy).1 with q | q
    · exact Or.inl q
    · exact Or.inr ⟨q, PySem.W.cellsFrom_some _ _ _ (Or.inl q)⟩
  refine codeAny_call_function room.depth (inHeap _ _ found) rfl S.co S.gen rfl (PySem.W.codeRec_of inHeap codeAt) (bd _ _ _ _ ?_)
  refine wpAny_newFunctionEnv_cells S.kind parKind fun env eq s1 x => ?_
  subst eq
  refine ⟨noLim.keeps x.toInCall.keep, codeAny_func ?_⟩
  obtain ⟨t, steps, goal⟩ := run cdv A fr st H vs Q E (room.deeper _) gds ask
  have I0 := inv_start (CX := cx) (E := E) (cd := cdv) S room.hd en (wide _ _ _ _ ask) rv x
  refine wpAny_mono (steps.run [] s1 (start N vs) H _ I0 goal) (fun fl s' told => ?_) fun _ _ told => told
  cases fl with
  | next =>
    obtain ⟨σ', H', J, q⟩ := told
    exact ⟨V.non, H', J.os, J.bare, J.base, J.hok, (rfl : RelV V.non Value.none), q⟩
  | ret u =>
    obtain ⟨v, σ', H', J, rv', q⟩ := told
    exact ⟨v, H', J.os, J.bare, J.base, J.hok, rv', q⟩
  | brk => exact (told.elim fun _ z => z.elim fun _ z => z.2.elim)
  | cont => exact (told.elim fun _ z => z.elim fun _ z => z.2.elim)
theorem fn_ok (F : FunD g.K x qual params body scope dvs kws f fd) (S : FnScope N ps scope) (hb : ∀ X W, Ct g P w mg base k N scope true true gb X W → SB g X W body code) :
    FnG gb P w g.K mg base (CX P w) (k + 1) f fd ps (spOf g ps.length (fnSem N.length code)) := by
  refine by_body F S (fun vs H Q E h => h.1) fun cdv A outer s H vs Q E hr hgd hsp => ?_
  refine ⟨_, pss_wp, ?_⟩
  have c : Ct g P w mg base k N scope true true gb (cxOf (CX P w) P w g.K mg base N qual scope f cdv A outer s H E) (fun cls d _ H => E cls d H) :=
    ⟨rfl, rfl, rfl, rfl, rfl, rfl, S.nd, S.kind, rfl, fun _ => rfl, hgd, fun _ => hr, Nat.lt_of_le_of_lt (Nat.add_le_add_right (Nat.le_add_right _ _) 200) hr.un, fun _ => rfl, fun _ => rfl, takes_of rfl rfl rfl rfl, fun _ _ => rfl, fun _ _ => passes_of rfl, fun _ => rfl⟩
  obtain ⟨hl, F0, as, ss, μ, r, μ', sr, rs, hs, post⟩ := hsp
  have er := er_start (N := N) rs
  unfold fnSem at hs
  cases e : code (ss.map some ++ List.replicate (N.length - ss.length) none) μ with
  | none => rw [e] at hs; cases hs
  | some z =>
    obtain ⟨fl, ρ', μ2⟩ := z
    rw [e] at hs
    refine (hb _ _ c).run F0 as _ μ _ H _ fl ρ' μ2 e sr er ?_
    cases fl with
    | nx =>
      cases hs
      exact fun F' as' σ' H' x' sr' er' => post F' as .non H' (ext_back x') (sr.back x' sr') ra_non
    | bk => cases hs
    | ct => cases hs
    | ex x =>
      cases hs
      exact fun F' as' σ' cls d H' x' sr' er' rx => post F' as cls d H' (ext_back x') (sr.back x' sr') rx
    | rt s =>
      intro F' as' v H' x' sr' ra'
      have hs : finR μ.length μ2 s = some (r, μ') := hs
      have hb' := sr.back x' sr'
      cases s with
      | val d =>
        cases hs
        exact post F' as v H' (ext_back x') hb' ra'
      | fr ds =>
        cases hs
        obtain ⟨p, vs', h1, h2, h3, h4, h5⟩ := (show ∃ p vs, v = .ref p ∧ H' p = some (.lst vs) ∧ F' p = none ∧ p ∉ as' ∧ Reps g F' ds vs from ra')
        refine post F' as v H' (ext_back x') hb' ⟨p, vs', h1, h2, h3, fun hm => h4 ?_, h5⟩
        obtain ⟨_, l, rfl⟩ := x'
        exact List.mem_append_left _ hm
      | cell j =>
        obtain ⟨a, ha, rfl⟩ := (show ∃ a, as'[j]? = some a ∧ v = .ref a from ra')
        unfold finR at hs
        dsimp only at hs
        by_cases hj : j < μ.length
        · rw [if_pos hj] at hs
          cases hs
          refine post F' as _ H' (ext_back x') hb' ⟨a, ?_, rfl⟩
          obtain ⟨_, l, rfl⟩ := x'
          rw [List.getElem?_append_left (by rw [sr.len]; exact hj)] at ha
          exact ha
        · rw [if_neg hj] at hs
          split at hs
          · rename_i ds hds
            cases hs
            obtain ⟨fa, vs', hv, rv⟩ := sr'.cells _ _ _ ha hds
            refine post F' as _ H' (ext_back x') hb' (ra_lst hv fa (fun hm => ?_) rv)
            obtain ⟨i, hi⟩ := List.getElem?_of_mem hm
            have hil : i < as.length := (List.getElem?_eq_some_iff.mp hi).1
            have hi' : as'[i]? = some a := by
              obtain ⟨_, l, rfl⟩ := x'
              rw [List.getElem?_append_left hil]
              exact hi
            have := nd_at sr'.nd hi' ha
            rw [sr.len] at hil
            omega
          · rename_i d hd
            cases hs
            exact post F' as _ H' (ext_back x') hb' (sr'.cells _ _ _ ha hd)
          · cases hs
      | any =>
        cases hs
        exact post F' as v H' (ext_back x') hb' trivial
      | pot jo is ds =>
        cases jo with
        | none =>
          cases hs
          obtain ⟨p, q, vs, us, e1, e2, e3, e4, e5, e6, e7, e8, e9, e10⟩ := (show ∃ p q vs us, v = .ref p ∧ H' p = some (.lst (.ref q :: us)) ∧ F' p = none ∧ p ∉ as' ∧ H' q = some (.lst vs) ∧ F' q = none ∧ q ∉ as' ∧ p ≠ q ∧ Reps g F' is vs ∧ Reps g F' ds us from ra')
          have sub : ∀ z, z ∈ as → z ∈ as' := fun z hz => by
            obtain ⟨_, l, rfl⟩ := x'
            exact List.mem_append_left _ hz
          exact post F' as v H' (ext_back x') hb' (show ∃ p q vs us, v = .ref p ∧ H' p = some (.lst (.ref q :: us)) ∧ F' p = none ∧ p ∉ as ∧ H' q = some (.lst vs) ∧ F' q = none ∧ q ∉ as ∧ p ≠ q ∧ Reps g F' is vs ∧ Reps g F' ds us from ⟨p, q, vs, us, e1, e2, e3, fun z => e4 (sub _ z), e5, e6, fun z => e7 (sub _ z), e8, e9, e10⟩)
        | some j =>
          obtain ⟨p, b, us, e1, e2, e3, e4, e5, e6⟩ := (show ∃ p b us, v = .ref p ∧ H' p = some (.lst (.ref b :: us)) ∧ F' p = none ∧ p ∉ as' ∧ as'[j]? = some b ∧ Reps g F' ds us from ra')
          have sub : ∀ z, z ∈ as → z ∈ as' := fun z hz => by
            obtain ⟨_, l, rfl⟩ := x'
            exact List.mem_append_left _ hz
          unfold finR at hs
          dsimp only at hs
          by_cases hj : j < μ.length
          · rw [if_pos hj] at hs
            cases hs
          · rw [if_neg hj] at hs
            split at hs
            · rename_i is' his
              cases hs
              obtain ⟨fb, vs', hv, rv⟩ := sr'.cells _ _ _ e5 his
              have nb : b ∉ as := fun hm => by
                obtain ⟨i, hi⟩ := List.getElem?_of_mem hm
                have hil : i < as.length := (List.getElem?_eq_some_iff.mp hi).1
                have hi' : as'[i]? = some b := by
                  obtain ⟨_, l, rfl⟩ := x'
                  rw [List.getElem?_append_left hil]
                  exact hi
                have := nd_at sr'.nd hi' e5
                rw [sr.len] at hil
                omega
              exact post F' as v H' (ext_back x') hb' (show ∃ p q vs us, v = .ref p ∧ H' p = some (.lst (.ref q :: us)) ∧ F' p = none ∧ p ∉ as ∧ H' q = some (.lst vs) ∧ F' q = none ∧ q ∉ as ∧ p ≠ q ∧ Reps g F' is' vs ∧ Reps g F' ds us from ⟨p, b, vs', us, e1, e2, e3, fun z => e4 (sub _ z), hv, fb, nb, fun z => e4 (z ▸ List.mem_of_getElem? e5), rv, e6⟩)
            · cases hs

/-! ### binding -/
theorem bnd0 {n : Nat} {ks : List Str} (F : FunD g.K x qual params body scope [] [] f fd)
    (h : ∀ (kV doc pm : Value) (an : Option Addr) (cdv ct : Value) (us ws : List Value), us.length = n → ws.length = ks.length → ∃ b, bindG ks us ws [] ps.length ps 0 = some b ∧ bindArgs (PySem.W.fnOf x qual params body scope .none kV doc pm an cdv ct) ⟨us, ks.zip ws⟩ = pure (ps.zip b)) : Bnd g.K fd ps n ks [] := by
  obtain ⟨oc, od, dV, kV, doc, pm, an, cdv, ct, osl, rfl, lk, hcd, hD, hK⟩ := F.ex
  rcases hD with ⟨_, rfl⟩ | ⟨e, _⟩
  · refine ⟨[], .nil, fun s us ws _ h1 h2 => ?_⟩
    obtain ⟨b, e1, e2⟩ := h kV doc pm an cdv ct us ws h1 h2
    exact ⟨b, e1, .of_eq e2⟩
  · exact absurd rfl e
theorem bnd1 {n : Nat} {ks : List Str} (F : FunD g.K x qual params body scope dvs [] f fd) (hd : dvs ≠ [])
    (h : ∀ (T : Addr) (kV doc pm : Value) (an : Option Addr) (cdv ct : Value) (us its ws : List Value), us.length = n → its.length = dvs.length → ws.length = ks.length → ∃ b, bindG ks us ws its ps.length ps 0 = some b ∧
      ∃ k, bindArgs (PySem.W.fnOf x qual params body scope (.ref T) kV doc pm an cdv ct) ⟨us, ks.zip ws⟩ = seqItems? (.ref T) >>= k ∧ k (some its.toArray) = pure (ps.zip b)) : Bnd g.K fd ps n ks dvs := by
  obtain ⟨oc, od, dV, kV, doc, pm, an, cdv, ct, osl, rfl, lk, hcd, hD, hK⟩ := F.ex
  rcases hD with ⟨e, _⟩ | ⟨_, T, o, its, m, rfl, lT, oT, rT⟩
  · exact absurd e hd
  · refine ⟨its, rT, fun s us ws X h1 h2 => ?_⟩
    obtain ⟨b, e1, k, e2, e3⟩ := h T kV doc pm an cdv ct us its ws h1 rT.length.symm h2
    refine ⟨b, e1, BindsTo.of_looks fun M => ?_⟩
    rw [e2]
    exact looks_items X lT oT (PySem.W.Looks.of_pure e3)
def BndAll (K : PySem.W.Frag) (fd : FuncData) (ps : List Str) (dvs : List V) : List (Nat × List Str) → Prop
  | [] => True
  | q :: r => Bnd K fd ps q.1 q.2 dvs ∧ BndAll K fd ps dvs r
theorem BndAll.get {K : PySem.W.Frag} {fd : FuncData} {ps : List Str} {dvs : List V} : ∀ {sh : List (Nat × List Str)}, BndAll K fd ps dvs sh → ∀ q ∈ sh, Bnd K fd ps q.1 q.2 dvs
  | [], _, q, hq => by cases hq
  | _ :: _, h, q, hq => by
    rcases List.mem_cons.mp hq with e | hq
    · rw [e]; exact h.1
    · exact h.2.get q hq
/-- a default as the head has it -/
def dvOf : D → He.Dv
  | .bl b => .bl b
  | .int i => .int i
  | .str s => .str s
  | .ty T => .ty T
  | _ => .non
def dvOk : D → Bool
  | .non => true
  | .bl _ => true
  | .int _ => true
  | .str _ => true
  | .ty _ => true
  | _ => false
theorem dv_rep {F : Hp} {d : D} (h : dvOk d = true) : Rep g F d ((dvOf d).v g.K) := by
  cases d <;> first | (unfold Rep; rfl) | cases h
theorem dvs_rep {F : Hp} : ∀ {ds : List D}, ds.all dvOk = true → Reps g F ds ((ds.map dvOf).map (He.Dv.v g.K))
  | [], _ => Reps.nil
  | d :: ds, h => by
    rw [List.all_cons, Bool.and_eq_true] at h
    exact Reps.cons (dv_rep h.1) (dvs_rep h.2)
theorem FnC.of {dfl : List D} {sh : List (Nat × List Str)} (h : ∃ fd, FunD g.K x qual params body scope ((dfl.map dvOf).map (He.Dv.v g.K)) [] f fd) (hd : dfl.all dvOk = true) (S : FnScope N ps scope) (hb : ∀ X W, Ct g P w mg base k N scope true true gb X W → SB g X W body code)
    (hB : ∀ fd, FunD g.K x qual params body scope ((dfl.map dvOf).map (He.Dv.v g.K)) [] f fd → BndAll g.K fd ps ((dfl.map dvOf).map (He.Dv.v g.K)) sh) : FnC gb g P w mg base ⟨ps, dfl, fnSem N.length code⟩ (k + 1) f sh := by
  obtain ⟨fd, F⟩ := h
  exact ⟨fd, _, fn_ok F S hb, (hB fd F).get, fun _ => dvs_rep hd⟩
end
end Sz

set_option Elab.async false
set_option linter.all false
set_option maxRecDepth 100000
set_option maxHeartbeats 4000000
/-! Sz K: methods, the head's facts, a law's end. -/
namespace Sz
open PySem PySem.Spec L2
section
variable {g : G} {P : Program} {w : World} {mg : Str → Option Value} {base : Heap} {k : Nat} {N : List Str} {sc : Scope} {own cm gb : Bool} {X : Cx} {W : WX} {i : Nat} {x : Str}
structure MtC (gb : Bool) (g : G) (P : Program) (w : World) (mg : Str → Option Value) (base : Heap) (mt : Nat → Option FnI) (m : Str) (k : Nat) (sh : List (Nat × List Str)) : Prop where
  ok : ∀ c fi, mt c = some fi → ∃ f, FnC gb g P w mg base fi k f sh ∧ Cls g.K (g.cad c) ∧ Meth g.K (g.cad c) m f ∧ (g.fl c).contains m = false
theorem Ct.meth {gc : Bool} {mt : Nat → Option FnI} {a : Expr} {ma : ME} {m : Str} {n j : Nat} {ks : List Str} {sh : List (Nat × List Str)} {apos pos : Pos} {es : List Expr} {kws : List Keyword} {ms kms : List ME} (c : Ct g P w mg base k N sc own true gb X W) (M : MtC gc g P w mg base mt m j sh) (hgd : leB gc gb = true)
    (hj : Nat.ble j k = true) (hs : sh.contains (n + 1, ks) = true) (hb : recvOk a = true) (hf : methForm apos pos es kws = true) (hks : kwNames kws = some ks) (hself : SE g X W a ma) (ha : SAs g X W es ms) (hkw : SK g X W kws (mArgs kms)) :
    SE g X W (.Call (.Attribute a m apos) es kws pos) (mMeth m mt n ks ma ms kms) := by
  refine se_meth (k := j) ⟨fun cc fi h => ?_⟩ ((c.room rfl).mono (Nat.le_of_ble_eq_true hj)) (fun e => c.gd (leB_ok hgd e)) c.tk hb hf hks hself ha hkw
  obtain ⟨f, h1, h2, h3, h4⟩ := M.ok cc fi h
  refine ⟨f, c.fnK h1 hs, ?_, ?_, fun hm => ?_⟩
  · rw [c.hK]; exact h2
  · rw [c.hK]; exact h3
  · rw [List.contains_iff_mem.mpr hm] at h4; cases h4
/-- o.f -/
theorem Ct.attr {a : Expr} {ma : ME} {f : Str} {fls : List (List Str)} {pos : Pos} (c : Ct g P w mg base k N sc own cm gb X W) (ff : FldF g fls) (hno : ∀ c, c < fls.length → NoAttr g.K (g.cad c) f) (ha : SE g X W a ma) (hs : notCall a = true) : SE g X W (.Attribute a f pos) (mAttr fls f ma) :=
  se_attr c.K ff hno ha hs
theorem Ct.fld {o e : Expr} {mo m : ME} {f : Str} {fls : List (List Str)} {pos pos' : Pos} (c : Ct g P w mg base k N sc own cm gb X W) (ff : FldF g fls) (hno : ∀ c, c < fls.length → NoAttr g.K (g.cad c) f) (ho : SE g X W o mo) (he : SE g X W e m) : SS g X W (.Assign [.Attribute o f pos'] e pos) (sFldM fls.length f mo m) :=
  ss_fld c.K (fun n h => ⟨ff.cls n h, hno n h⟩) ho he
theorem kitF0 {sub : Nat → Nat → Bool} : KitF g 0 0 sub := ⟨fun c h => absurd h (Nat.not_lt_zero c), fun c h => absurd h (Nat.not_lt_zero c), fun h => absurd h (Nat.lt_irrefl 0), fun h => absurd h (Nat.lt_irrefl 0), fun c h => absurd h (Nat.not_lt_zero c), fun c _ h => absurd h (Nat.not_lt_zero c), fun c _ h => absurd h (Nat.not_lt_zero c), fun c _ h => absurd h (Nat.not_lt_zero c)⟩
theorem FnC.sub {fi : FnI} {f : Addr} {sh sh' : List (Nat × List Str)} (F : FnC gb g P w mg base fi k f sh) (j : Nat) (hj : Nat.ble k j = true) (h : sh'.all (fun q => sh.contains q) = true) : FnC gb g P w mg base fi j f sh' := by
  obtain ⟨fd, dvs, h1, h2, h3⟩ := F.ok
  exact ⟨fd, dvs, h1.at_most (Nat.le_of_ble_eq_true hj), fun q hq => h2 q (List.contains_iff_mem.mp (List.all_eq_true.mp h q hq)), h3⟩
end

/-! ### the head -/
/-- the text's things by their names: classes, their fields -/
def gOf (cls : List Str) (fls : List (List Str)) (K : PySem.W.Frag) (fns : List Str := []) : G := ⟨K, fun c => He.ga K (cls.getD c ""), fun c => fls.getD c [], fun n => He.ga K (fns.getD n "")⟩
def faOf (frees globs : List Str) (rest : List He.Fa) : List He.Fa := frees.map .free ++ (globs.map .glo ++ (globs.map .keep ++ rest))
section
variable {K : PySem.W.Frag} {h : Heap} {mg : Str → Option Value} {frees globs : List Str} {rest : List He.Fa} {fn : List He.DefD}
theorem says_all (S : He.SaysD (faOf frees globs rest) fn K) {f : He.Fa} (hf : f ∈ faOf frees globs rest) : f.ok K = true := by
  have c1 := (He.ba (show ((faOf frees globs rest).all (fun f => f.ok K) && fn.all fun d => d.ok K) = true from congrArg (fun z : He.AlD => z.1) S)).1
  exact List.all_eq_true.mp c1 f hf
theorem tb_of {g : G} (hg : g.K = K) (X : K.In h) (G : h.Ns mainGlobals mg) (S : He.SaysD (faOf frees globs rest) fn K) : Tb g mg frees globs := by
  subst hg
  refine ⟨fun x hx => He.free_ok X G (says_all S ?_), fun x hx => ⟨He.glo_ok X G (says_all S ?_), He.keep_ok (says_all S ?_)⟩⟩
  · exact List.mem_append_left _ (List.mem_map.mpr ⟨x, List.contains_iff_mem.mp hx, rfl⟩)
  · exact List.mem_append_right _ (List.mem_append_left _ (List.mem_map.mpr ⟨x, List.contains_iff_mem.mp hx, rfl⟩))
  · exact List.mem_append_right _ (List.mem_append_right _ (List.mem_append_left _ (List.mem_map.mpr ⟨x, List.contains_iff_mem.mp hx, rfl⟩)))
theorem rest_ok (S : He.SaysD (faOf frees globs rest) fn K) (i : Nat) {f : He.Fa} (hi : rest[i]? = some f) : f.ok K = true :=
  says_all S (List.mem_append_right _ (List.mem_append_right _ (List.mem_append_right _ (List.mem_of_getElem? hi))))
end

/-! ### a law's end -/
theorem sr_empty {g : G} {H : Hp} : SR g H [] [] H := ⟨Same.refl _, rfl, fun i a c h => by simp at h, .nil, fun a h => by simp at h⟩
theorem sp_law {g : G} {sem : List S → Sto → Option R} {H : Hp} {a : Addr} {ns : List Int} (hS : SqL g.K H a (ns.map V.int)) (h : sem [.val (.scr ns)] [] = some (.ok (.val (.bl true)), [])) : spOf g 1 sem [.ref a] H (fun v _ => v = .bl true) fun _ _ _ => False := by
  refine ⟨rfl, H, [], [.val (.scr ns)], [], _, _, sr_empty, .cons ?_ .nil, h, fun F' as' v H' _ _ r => ?_⟩
  · show Rep g H (.scr ns) (.ref a)
    unfold Rep
    exact ⟨a, rfl, hS⟩
  · have r : Rep g F' (.bl true) v := r
    unfold Rep at r
    exact r
end Sz

set_option Elab.async false
set_option linter.all false
set_option maxRecDepth 100000
set_option maxHeartbeats 4000000
/-! Sz L: a list's methods, the kit of classes. -/
namespace Sz
open PySem PySem.Spec L2

/-! ### methods of a list that is a cell -/
abbrev mcan (X : Cx) (id : String) : V → List V → Hp → VK → Prop := fun x xs H Q => ∀ (pins : List (Addr × Obj)) (s : Shared) (σ : L2.St) (v : Value) (us : List Value), Inv X pins σ H s → RelV x v → Vals xs us → wpAny (model X.prog X.w) X.A (call (.builtin id) (v :: us)) (EP X pins σ Q) X.xe s
theorem mt_can {X : Cx} {id : String} : MtR X id (mcan X id) := fun pins s σ H x xs v us Q I r rs h => h pins s σ v us I r rs
theorem mc {X : Cx} {id : String} {r : V → List V → Hp → VK → Prop} (h : MtR X id r) {x : V} {xs : List V} {H : Hp} {Q : VK} (q : r x xs H Q) : mcan X id x xs H Q := fun pins s σ v us I rx rs => h pins s σ H x xs v us Q I rx rs q
def LmOk (g : G) (X : Cx) (id : String) (op : List D → List D → Option (D × List D)) : Prop :=
  ∀ (xs ds ys : List D) (r : D) (F : Hp) (a : Addr) (vs us : List V) (H : Hp) (Q : VK), op xs ds = some (r, ys) → Same F H → Reps g F xs vs → Reps g F ds us → H a = some (.lst vs) → (∀ w zs, Rep g F r w → Reps g F ys zs → Q w (upd H a (.lst zs))) → mcan X id (.ref a) us H Q
def finLm (op : List D → List D → Option (D × List D)) (k : Nat) (ss : List S) (μ : Sto) : Option R := match toDs μ ss with
  | some (ds, μ3) => (match μ3[k]? with
    | some (.lst xs) => (match op xs ds with
      | some (r, ys) => some (.ok (.val r), μ3.set k (.lst ys))
      | none => none)
    | _ => none)
  | none => none
def isLst : Option C → Bool
  | some (.lst _) => true
  | _ => false
def mLm (op : List D → List D → Option (D × List D)) (o : ME) (ms : List ME) : ME := fun ρ μ => andThen (o ρ μ) fun s μ1 => match rt s with
  | .cell k => if isLst μ1[k]? then andThen (mArgs ms ρ μ1) (finLm op k) else none
  | _ => none
section
variable {g : G} {X : Cx} {W : WX}
theorem finLm_run {id : String} {op : List D → List D → Option (D × List D)} (ho : LmOk g X id op) {F : Hp} {as : List Addr} {μ μ' : Sto} {H : Hp} {σ : L2.St} {Q : VK} {r : Except Ex S} {k : Nat} {a : Addr} {ss : List S} {us : List V} (ha : as[k]? = some a)
    (h : finLm op k ss μ = some (r, μ')) (sr : SR g F as μ H) (rs : RSs g F as ss us) (post : PostE g W F as σ Q r μ') : mcan X id (.ref a) us H Q := by
  unfold finLm at h
  split at h
  · rename_i ds μ3 hd
    obtain ⟨F3, x3, sr3, r3⟩ := toDs_rs sr rs hd
    split at h
    · rename_i xs hx
      split at h
      · rename_i rr ys hop
        cases h
        obtain ⟨fa, vs, hv, rv⟩ := sr3.cells _ _ _ ha hx
        refine ho xs ds ys rr F3 a vs us H Q hop sr3.sub rv r3 hv fun w zs rw' rz => ?_
        exact post F3 as w _ x3 (sr3.write ha fa ⟨fa, zs, upd_same, rz⟩) rw'
      · cases h
    · cases h
  · cases h
theorem se_lm {id : String} {m : Str} {op : List D → List D → Option (D × List D)} {o e : Expr} {es : List Expr} {mo : ME} {ms : List ME} {apos pos : Pos} (slot : Slot "list" m id) (hty : typeOf (.builtin id) = pure (.type "method_descriptor")) (ho : LmOk g X id op)
    (hK : g.K = X.K) (hb : recvOk o = true) (hf : methForm apos pos (e :: es) [] = true) (hst : (e :: es).all notStar = true) (h1 : SE g X W o mo) (h2 : SA g X W (e :: es) (mArgs ms)) : SE g X W (.Call (.Attribute o m apos) (e :: es) [] pos) (mLm op mo ms) := by
  unfold methForm at hf
  rw [Bool.and_eq_true] at hf
  have hst' := hst
  rw [List.all_cons, Bool.and_eq_true] at hst'
  refine ⟨fun F as ρ μ σ H Q r μ' h sr er post => wE (pe_bm PySem.F.plainAttrs_list slot hty mt_can pe_wp pa_wp (recv_base hb) (by rw [all_plain hst]; exact hf.2) hf.1 (starEach_cons hst'.1) (starEach_plain hst'.2)) ?_⟩
  refine h1.then_ (show andThen _ _ = some (r, μ') from h) sr er (fun x e => by subst e; exact post) fun s μ1 F1 as1 v H1 h3 x1 sr1 er1 ra1 => ?_
  obtain ⟨F1', x1', sr1', rs1⟩ := root_ok sr1 ra1
  split at h3
  · rename_i k hk
    rw [hk] at rs1
    obtain ⟨a, ha, rfl⟩ := (show ∃ a, as1[k]? = some a ∧ v = .ref a from rs1)
    split at h3
    · rename_i hl
      refine ⟨.inl ⟨rfl, ?_⟩, ?_⟩
      · cases hc : μ1[k]? with
        | none => rw [hc] at hl; cases hl
        | some c =>
          rw [hc] at hl
          cases c with
          | lst xs =>
            obtain ⟨fa, vs, hv, rv⟩ := sr1'.cells _ _ _ ha hc
            exact ⟨vs, SqL.of hv⟩
          | frz _ => cases hl
          | ins _ _ => cases hl
          | pot _ _ => cases hl
      · refine h2.then_ h3 sr1' (er1.mono x1') (fun x e => by subst e; exact PErr.ext (x1.trans x1') post) fun ss μ2 F2 as2 us H2 h4 x2 sr2 er2 rs2 => ?_
        have ha2 : as2[k]? = some a := by
          obtain ⟨_, l, rfl⟩ := x2
          rw [List.getElem?_append_left (List.getElem?_eq_some_iff.mp ha).1]
          exact ha
        exact finLm_run (W := W) ho ha2 h4 sr2 rs2 (PostE.ext ((x1.trans x1').trans x2) post)
    · cases h3
  · cases h3
theorem se_lm0 {id : String} {m : Str} {op : List D → List D → Option (D × List D)} {o : Expr} {mo : ME} {apos pos : Pos} (slot : Slot "list" m id) (hty : typeOf (.builtin id) = pure (.type "method_descriptor")) (ho : LmOk g X id op)
    (hK : g.K = X.K) (hb : recvOk o = true) (hf : methForm apos pos [] [] = true) (h1 : SE g X W o mo) : SE g X W (.Call (.Attribute o m apos) [] [] pos) (mLm op mo []) := by
  unfold methForm at hf
  rw [Bool.and_eq_true] at hf
  refine ⟨fun F as ρ μ σ H Q r μ' h sr er post => wE (pe_bm0 PySem.F.plainAttrs_list slot hty mt_can pe_wp (recv_base hb) hf.1) ?_⟩
  refine h1.then_ (show andThen _ _ = some (r, μ') from h) sr er (fun x e => by subst e; exact post) fun s μ1 F1 as1 v H1 h3 x1 sr1 er1 ra1 => ?_
  obtain ⟨F1', x1', sr1', rs1⟩ := root_ok sr1 ra1
  split at h3
  · rename_i k hk
    rw [hk] at rs1
    obtain ⟨a, ha, rfl⟩ := (show ∃ a, as1[k]? = some a ∧ v = .ref a from rs1)
    split at h3
    · rename_i hl
      refine ⟨.inl ⟨rfl, ?_⟩, ?_⟩
      · cases hc : μ1[k]? with
        | none => rw [hc] at hl; cases hl
        | some c =>
          rw [hc] at hl
          cases c with
          | lst xs =>
            obtain ⟨fa, vs, hv, rv⟩ := sr1'.cells _ _ _ ha hc
            exact ⟨vs, SqL.of hv⟩
          | frz _ => cases hl
          | ins _ _ => cases hl
          | pot _ _ => cases hl
      · exact finLm_run (W := W) ho ha (show finLm op k [] μ1 = some (r, μ') from h3) sr1' .nil (PostE.ext (x1.trans x1') post)
    · cases h3
  · cases h3
def lApp : List D → List D → Option (D × List D)
  | xs, [d] => if xs.length < sizeLine then some (.non, xs ++ [d]) else none
  | _, _ => none
def lIns : List D → List D → Option (D × List D)
  | xs, [.int i, d] => if xs.length < sizeLine ∧ 0 ≤ i ∧ i < 2 ^ 63 then some (.non, xs.take i.toNat ++ [d] ++ xs.drop i.toNat) else none
  | _, _ => none
def lPop : List D → List D → Option (D × List D)
  | xs, [] => (match xs[xs.length - 1]? with
    | some d => some (d, xs.dropLast)
    | none => none)
  | _, _ => none
def lPopAt : List D → List D → Option (D × List D)
  | xs, [.int i] => if -(2 ^ 63) ≤ i ∧ i < 2 ^ 63 then (match seqIndex? i xs.length with
    | some k => (match xs[k]? with
      | some d => some (d, xs.eraseIdx k)
      | none => none)
    | none => none) else none
  | _, _ => none
theorem Reps.eraseIdx {F : Hp} : ∀ {ds : List D} {vs : List V} (k : Nat), Reps g F ds vs → Reps g F (ds.eraseIdx k) (vs.eraseIdx k)
  | [], vs, k, h => by rw [Reps.nil_iff.mp h]; exact Reps.nil
  | d :: ds, vs, k, h => by
    obtain ⟨v, r, rfl, h1, h2⟩ := Reps.cons_iff.mp h
    cases k with
    | zero => exact h2
    | succ k => exact Reps.cons h1 (h2.eraseIdx k)
theorem lm_app : LmOk g X "list.append" lApp := by
  intro xs ds ys r F a vs us H Q e hs rx rd ha k
  unfold lApp at e
  split at e
  · rename_i xs d
    split at e
    · rename_i hz
      cases e
      obtain ⟨u, us', rfl, h1, h2⟩ := Reps.cons_iff.mp rd
      cases Reps.nil_iff.mp h2
      exact mc (r := rAppend) mt_append ⟨a, vs, u, rfl, rfl, ha, by rw [rx.length]; exact hz, k .non _ (by unfold Rep; rfl) (rx.append (Reps.cons h1 Reps.nil))⟩
    · cases e
  · cases e
theorem rep_int {F : Hp} {i : Int} {v : V} (h : Rep g F (.int i) v) : v = .int i := by unfold Rep at h; exact h
theorem lm_ins : LmOk g X "list.insert" lIns := by
  intro xs ds ys r F a vs us H Q e hs rx rd ha k
  unfold lIns at e
  split at e
  · rename_i xs i d
    split at e
    · rename_i hz
      cases e
      obtain ⟨u, us', rfl, h1, h2⟩ := Reps.cons_iff.mp rd
      obtain ⟨u2, us2, rfl, h3, h4⟩ := Reps.cons_iff.mp h2
      cases Reps.nil_iff.mp h4
      cases rep_int h1
      exact mc mt_insert ⟨a, vs, i, u2, rfl, rfl, ha, by rw [rx.length]; exact hz.1, hz.2.1, hz.2.2, k .non _ (by unfold Rep; rfl) (((rx.take _).append (Reps.cons h3 Reps.nil)).append (rx.drop _))⟩
    · cases e
  · cases e
theorem lm_pop : LmOk g X "list.pop" lPop := by
  intro xs ds ys r F a vs us H Q e hs rx rd ha k
  unfold lPop at e
  split at e
  · rename_i xs
    split at e
    · rename_i d hd
      cases e
      cases Reps.nil_iff.mp rd
      obtain ⟨v, h1, h2⟩ := rx.get hd
      rw [← rx.length] at h1
      refine mc (r := rPop) mt_pop ⟨a, vs, v, rfl, rfl, ha, h1, k v _ h2 ?_⟩
      rw [List.dropLast_eq_take, List.dropLast_eq_take, rx.length]
      exact rx.take _
    · cases e
  · cases e
theorem lm_popAt : LmOk g X "list.pop" lPopAt := by
  intro xs ds ys r F a vs us H Q e hs rx rd ha k
  unfold lPopAt at e
  split at e
  · rename_i xs i
    split at e
    · rename_i hz
      split at e
      · rename_i j hj
        split at e
        · rename_i d hd
          cases e
          obtain ⟨u, us', rfl, h1, h2⟩ := Reps.cons_iff.mp rd
          cases Reps.nil_iff.mp h2
          cases rep_int h1
          obtain ⟨v, h3, h4⟩ := rx.get hd
          exact mc (r := rPopAt) mt_popAt ⟨a, vs, i, j, v, rfl, rfl, ha, hz.1, hz.2, by rw [rx.length]; exact hj, h3, k v _ h4 (rx.eraseIdx j)⟩
        · cases e
      · cases e
    · cases e
  · cases e
end

/-! ### the kit of classes, looked at in the head -/
def eqB (a b : Option Bool) : Bool := match a, b with
  | some x, some y => x == y
  | none, none => true
  | _, _ => false
theorem eqB_ok {a b : Option Bool} (h : eqB a b = true) : a = b := by
  unfold eqB at h
  split at h
  · rw [beq_iff_eq.mp h]
  · rfl
  · cases h
def kitB (cls : List Str) (n m : Nat) (sub : Nat → Nat → Bool) (K : PySem.W.Frag) : Bool :=
  (He.eqO (PySem.W.specialIn K (.builtin "object.__class__") "__get__") (some (some (.builtin "getset_descriptor.__get__"))) && eqB (PySem.W.takesIn K (.builtin "object.__class__")) (some true)) &&
  (((List.range n).all fun c => (He.Fa.cls (cls.getD c "")).ok K && (He.eqO (PySem.W.findIn K (.ref (He.ga K (cls.getD c ""))) "__class__") (some (some (.builtin "object.__class__"))) && eqB (PySem.W.mroIn K (He.ga K (cls.getD c "")) (.type "object")) (some true))) &&
  (((List.range m).all fun c => tyNames.all fun T => eqB (PySem.W.kitOne K (.type T) (.ref (He.ga K (cls.getD c "")))) (some false)) &&
  (((List.range n).all fun c => (List.range m).all fun c' => eqB (PySem.W.kitOne K (.ref (He.ga K (cls.getD c ""))) (.ref (He.ga K (cls.getD c' "")))) (some (sub c c'))) &&
  ((List.range n).all fun c => ["bool", "int", "str", "list", "tuple", "dict"].all fun T => eqB (PySem.W.kitOne K (.ref (He.ga K (cls.getD c ""))) (.type T)) (some false)))))
theorem kitB_ok {cls fns : List Str} {fls : List (List Str)} {n m : Nat} {sub : Nat → Nat → Bool} {K : PySem.W.Frag} (h : kitB cls n m sub K = true) : KitF (gOf cls fls K fns) n m sub := by
  unfold kitB at h
  simp only [Bool.and_eq_true, List.all_eq_true, List.mem_range] at h
  obtain ⟨⟨h1, h2⟩, h3, h4, h5, h6⟩ := h
  refine ⟨fun c hc => He.cls_ok (h3 c hc).1, fun c hc => He.eqO_ok (h3 c hc).2.1, fun _ => He.eqO_ok h1, fun _ => eqB_ok h2, fun c hc => eqB_ok (h3 c hc).2.2, fun c T hc hT => eqB_ok (h4 c hc T (List.contains_iff_mem.mp hT)), fun c c' hc hc' => eqB_ok (h5 c hc c' hc'), fun c T hc hT => eqB_ok (h6 c hc T (List.contains_iff_mem.mp hT))⟩

/-! ### a hook with a look of one's own -/
def obsZ (chk : PySem.W.Frag → Bool) (fa : List He.Fa) (fn : List He.DefD) (K : PySem.W.Frag) : He.AlD := ((chk K && fa.all fun f => f.ok K) && fn.all fun d => d.ok K, fn.map fun d => He.fnW K d.at_)
def SaysZ (chk : PySem.W.Frag → Bool) (fa : List He.Fa) (fn : List He.DefD) (K : PySem.W.Frag) : Prop := obsZ chk fa fn K = He.valD fn
def obsZG (n : Nat) (chk : PySem.W.Frag → Bool) (fa : List He.Fa) (fn : List He.DefD) (g : Addr → Option Obj) : He.AlD := obsZ chk fa fn (He.frG g (He.asD g n))
def hookZ (n : Nat) (chk : PySem.W.Frag → Bool) (fa : List He.Fa) (fn : List He.DefD) : PySem.W.Hook where
  α := He.AlD
  obs := fun s => obsZG n chk fa fn s.heap.get?
  val := fun _ => He.valD fn
  says := fun _ h => ∃ K : PySem.W.Frag, K.In h ∧ SaysZ chk fa fn K
  of := fun _ _ e => ⟨_, He.frG_in, e⟩
  keeps := fun _ _ _ ⟨K, hK, c⟩ k => ⟨K, PySem.W.Frag.In.keeps hK k, c⟩
theorem obsZG_eq {n : Nat} {chk : PySem.W.Frag → Bool} {fa : List He.Fa} {fn : List He.DefD} {g : Addr → Option Obj} {s : Shared} (h : ∀ a, g a = s.heap.get? a) : obsZG n chk fa fn g = (hookZ n chk fa fn).obs s := by
  have e : g = s.heap.get? := funext h
  rw [e] <;> rfl
theorem SaysZ.chk {chk : PySem.W.Frag → Bool} {fa : List He.Fa} {fn : List He.DefD} {K : PySem.W.Frag} (S : SaysZ chk fa fn K) : chk K = true :=
  (He.ba (He.ba (show ((chk K && fa.all fun f => f.ok K) && fn.all fun d => d.ok K) = true from congrArg (fun z : He.AlD => z.1) S)).1).1
theorem SaysZ.says {chk : PySem.W.Frag → Bool} {fa : List He.Fa} {fn : List He.DefD} {K : PySem.W.Frag} (S : SaysZ chk fa fn K) : He.SaysD fa fn K := by
  have h1 := He.ba (show ((chk K && fa.all fun f => f.ok K) && fn.all fun d => d.ok K) = true from congrArg (fun z : He.AlD => z.1) S)
  have h2 := (He.ba h1.1).2
  have h3 : fn.map (fun d => He.fnW K d.at_) = fn.map He.DefD.val := congrArg (fun z : He.AlD => z.2) S
  show ((fa.all fun f => f.ok K) && fn.all fun d => d.ok K, fn.map fun d => He.fnW K d.at_) = (true, fn.map He.DefD.val)
  rw [h2, h1.2, h3]
  rfl
end Sz

set_option Elab.async false
set_option linter.all false
set_option maxRecDepth 100000
set_option maxHeartbeats 4000000
/-! Sz M: own ==, slices. -/
namespace Sz
open PySem PySem.Spec L2

/-! ### own == -/
open Classical in
/-- what the def tells of these two, whatever else there is -/
noncomputable def eqSem (fi : FnI) (x y : D) : Option S := if h : ∃ d : D, ∀ μ : Sto, fi.sem [.val x, .val y] μ = some (.ok (.val d), μ) then some (.val (choose h)) else none
theorem eqSem_eq {fi : FnI} {x y d : D} (h : ∀ μ : Sto, fi.sem [.val x, .val y] μ = some (.ok (.val d), μ)) : eqSem fi x y = some (.val d) := by
  unfold eqSem
  have hx : ∃ d : D, ∀ μ : Sto, fi.sem [.val x, .val y] μ = some (.ok (.val d), μ) := ⟨d, h⟩
  rw [dif_pos hx]
  have h2 := Classical.choose_spec hx []
  rw [h []] at h2
  have h3 : d = Classical.choose hx := by
    injection h2 with h2
    injection h2 with h2 _
    injection h2 with h2
    injection h2
  rw [← h3]
theorem eqSem_some {fi : FnI} {x y : D} {s : S} (h : eqSem fi x y = some s) : ∃ d, s = .val d ∧ ∀ μ : Sto, fi.sem [.val x, .val y] μ = some (.ok (.val d), μ) := by
  unfold eqSem at h
  split at h
  · rename_i hx
    cases h
    exact ⟨_, rfl, Classical.choose_spec hx⟩
  · cases h
noncomputable def dEqO (eqm : Nat → Option FnI) : D → D → Option S
  | .obj c fs, .obj c' gs => (match eqm c, eqm c' with
    | some fi, some _ => eqSem fi (.obj c fs) (.obj c' gs)
    | _, _ => none)
  | x, y => dEq x y
/-- what is known of the classes' own __eq__ -/
structure EqC (gb : Bool) (g : G) (P : Program) (w : World) (mg : Str → Option Value) (base : Heap) (eqm : Nat → Option FnI) (k : Nat) : Prop where
  ok : ∀ c fi, eqm c = some fi → ∃ f, FnC gb g P w mg base fi k f [(2, [])] ∧ PySem.W.findIn g.K (.ref (g.cad c)) "__eq__" = some (some (.ref f)) ∧ PySem.W.isFn g.K (.ref f) = true ∧ fi.ps.length = 2
  nf : ∀ c c' fi fi', eqm c = some fi → eqm c' = some fi' → PySem.W.notFirst g.K (g.cad c) (.ref (g.cad c')) = true
section
variable {g : G} {P : Program} {w : World} {mg : Str → Option Value} {base : Heap} {k : Nat} {N : List Str} {sc : Scope} {own cm gb : Bool} {X : Cx} {W : WX}
theorem bind2 {α : Type} {ps : List Str} {a b : α} (h : ps.length = 2) : bindG [] [a, b] [] ([] : List α) ps.length ps 0 = some [a, b] := by
  match ps, h with
  | [p, q], _ => rfl
theorem bind2' {α : Type} {ps : List Str} {a b : α} {dfl : List α} (h : ps.length = 2) : bindG [] [a, b] [] dfl ps.length ps 0 = some [a, b] := by
  match ps, h with
  | [p, q], _ => rfl
theorem Ct.eqo {gc : Bool} {eqm : Nat → Option FnI} {j : Nat} (c : Ct g P w mg base k N sc own true gb X W) (E : EqC gc g P w mg base eqm j) (hgd : leB gc gb = true) (hj : Nat.ble j k = true) : OpOk g X (compareOp .Eq) (dEqO eqm) := by
  intro x y s F as μ H v u Q e sr hx hy kk
  unfold dEqO at e
  split at e
  · rename_i ci fs ci' gs
    split at e
    · rename_i fi fi' hfi hfi'
      obtain ⟨d, rfl, hs⟩ := eqSem_some e
      obtain ⟨a, dx, vs, rfl, ha, _, _⟩ := vr_obj sr hx
      obtain ⟨b, dy, us, rfl, hb, _, _⟩ := vr_obj sr hy
      obtain ⟨f, hF, hfind, hfn, hps⟩ := E.ok ci fi hfi
      have hnf := E.nf ci ci' fi fi' hfi hfi'
      have hr := (c.room rfl).mono (Nat.le_of_ble_eq_true hj)
      have hK := c.K
      intro pins st σ v' u' I rv ru
      cases (show v' = Value.ref a from rv)
      cases (show u' = Value.ref b from ru)
      obtain ⟨mA, J, _⟩ := ins_get I.hok ha
      obtain ⟨mB, J', _⟩ := ins_get I.hok hb
      obtain ⟨od, J, _⟩ := J.look
      obtain ⟨od', J', _⟩ := J'.look
      obtain ⟨m, hFr⟩ := I.fr
      show wpAny (model X.prog X.w) X.A (richCompare .Eq (.ref a) (.ref b)) (EP X pins σ Q) X.xe st
      refine PySem.W.cmp_K (op := .Eq) (tb := .ref (g.cad ci')) hr.units0 hFr I.ok.mod.kin J J'.type (hK ▸ hnf) (hK ▸ hfind) (hK ▸ hfn) ?_
      have rx : RSs g F as [.val (.obj ci fs)] [.ref a] := .cons (show Rep g F (.obj ci fs) (.ref a) from by
        rcases hx with ⟨_, _, _, q, _⟩ | hx
        · cases q
        · exact hx) .nil
      have rxy : RSs g F as [.val (.obj ci fs), .val (.obj ci' gs)] [.ref a, .ref b] := .cons (show Rep g F (.obj ci fs) (.ref a) from by
        rcases hx with ⟨_, _, _, q, _⟩ | hx
        · cases q
        · exact hx) (.cons (show Rep g F (.obj ci' gs) (.ref b) from by
        rcases hy with ⟨_, _, _, q, _⟩ | hy
        · cases q
        · exact hy) .nil)
      have hcall : callF fi 2 [] [.val (.obj ci fs), .val (.obj ci' gs)] [] μ = some (.ok (.val d), μ) := by
        unfold callF
        rw [if_pos ⟨rfl, rfl⟩, bind2' hps]
        exact hs μ
      have key := callF_run (Q := Q) (c.fnK hF rfl) hr (fun e => c.gd (leB_ok hgd e)) c.tk hcall sr rxy .nil (show PostE g W F as σ Q (.ok (.val d)) μ from fun F' as' w' H' e' sr' ra' => kk F' as' w' H' e' sr' ra') st [.ref a, .ref b] [] I (.cons rfl (.cons rfl .nil)) .nil
      refine wpAny_mono key (fun w' s' z => ?_) fun _ _ x => x
      obtain ⟨z', H', I', rz, qz⟩ := z
      exact SlX.cmpback rz ⟨z', H', I', rz, qz⟩
    · cases e
  · exact ok_eq c.K c.hu64 _ _ s F as μ H v u Q e sr hx hy kk

/-! ### slices -/
abbrev MO := En → Sto → Option (Except Ex (Option Int) × Sto)
def oNone : MO := fun _ μ => some (.ok none, μ)
def intK (μ : Sto) : Option D → Option (Except Ex (Option Int) × Sto)
  | some (.int i) => some (.ok (some i), μ)
  | _ => none
def oSome (m : ME) : MO := fun ρ μ => andThen (m ρ μ) fun s μ1 => intK μ1 (vw μ1 s)
def PostO (g : G) (W : WX) (F : Hp) (as : List Addr) (σ : L2.St) (Q : Option Int → Hp → Prop) : Except Ex (Option Int) → Sto → Prop
  | .ok o, μ' => ∀ F' as' H', Ext F as F' as' → SR g F' as' μ' H' → Q o H'
  | .error x, μ' => PErr g W F as σ x μ'
structure SO (g : G) (X : Cx) (W : WX) (oe : Option Expr) (m : MO) : Prop where
  ex : ∃ t : TO, PO X oe t ∧ ∀ (F : Hp) (as : List Addr) (ρ : En) (μ : Sto) (σ : L2.St) (H : Hp) (Q : Option Int → Hp → Prop) (r : Except Ex (Option Int)) (μ' : Sto), m ρ μ = some (r, μ') → SR g F as μ H → ER g F as ρ σ → PostO g W F as σ Q r μ' → t σ H Q
theorem so_none : SO g X W none oNone := ⟨_, po_none, fun F as ρ μ σ H Q r μ' h sr er post => by cases h; exact post F as H .refl sr⟩
theorem so_some {e : Expr} {m : ME} (he : SE g X W e m) : SO g X W (some e) (oSome m) := by
  refine ⟨_, po_some pe_wp, fun F as ρ μ σ H Q r μ' h sr er post => ?_⟩
  refine he.then_ (show andThen _ _ = some (r, μ') from h) sr er (fun x e => by subst e; exact post) fun s μ1 F1 as1 v H1 h1 x1 sr1 er1 ra1 => ?_
  unfold intK at h1
  split at h1
  · rename_i i hi
    cases h1
    cases vr_int (view_ra sr1 ra1 hi)
    exact ⟨i, rfl, post F1 as1 H1 x1 sr1⟩
  · cases h1
def cutD (xs : List D) (lo hi : Option Int) : List D := (xs.drop (HT.sIx xs.length 0 lo)).take (HT.sIx xs.length xs.length hi - HT.sIx xs.length 0 lo)
def dSl : D → Option Int → Option Int → Option S
  | .lst ds, lo, hi => some (.fr (cutD ds lo hi))
  | .tup ds, lo, hi => some (.val (.tup (cutD ds lo hi)))
  | .scr ns, lo, hi => some (.fr (cutD (ns.map .int) lo hi))
  | _, _, _ => none
def slK (μ : Sto) (lo hi : Option Int) : Option D → Option R
  | some d => (match dSl d lo hi with
    | some s => some (.ok s, μ)
    | none => none)
  | none => none
def mSl (a : ME) (lo hi : MO) : ME := fun ρ μ => andThen (a ρ μ) fun s μ1 => andThen (lo ρ μ1) fun l μ2 => andThen (hi ρ μ2) fun u μ3 => slK μ3 l u (vw μ3 (rt s))
theorem cut_reps {F : Hp} {ds : List D} {vs : List V} {lo hi : Option Int} (r : Reps g F ds vs) : Reps g F (cutD ds lo hi) (cutV vs lo hi) := by
  unfold cutD cutV
  rw [r.length]
  exact (r.drop _).take _
theorem sl_or : SlR X (fun x lo hi H Q => rSlL X.K x lo hi H Q ∨ rSlA X.K x lo hi H Q) := sl_list.or sl_tupA
theorem cutD_whole {ds : List D} {lo hi : Option Int} (h : HT.sIx ds.length 0 lo = 0 ∧ HT.sIx ds.length ds.length hi = ds.length) : cutD ds lo hi = ds := by
  unfold cutD
  rw [h.1, h.2, List.drop_zero, Nat.sub_zero, List.take_length]
theorem se_slice {a : Expr} {ma : ME} {lo hi : Option Expr} {ml mh : MO} {pos p2 : Pos} (hK : g.K = X.K) (ha : SE g X W a ma) (hl : SO g X W lo ml) (hh : SO g X W hi mh) : SE g X W (.Subscript a (.Slice lo hi none p2) pos) (mSl ma ml mh) := by
  obtain ⟨tl, pl, rl⟩ := hl.ex
  obtain ⟨th, ph, rh⟩ := hh.ex
  refine ⟨fun F as ρ μ σ H Q r μ' h sr er post => wE (pe_slice sl_or pe_wp pl ph) ?_⟩
  refine ha.then_ (show andThen _ _ = some (r, μ') from h) sr er (fun x e => by subst e; exact post) fun s μ1 F1 as1 v H1 h1 x1 sr1 er1 ra1 => ?_
  obtain ⟨F1', x1', sr1', rs1⟩ := root_ok sr1 ra1
  have er1' := er1.mono x1'
  rcases andThen_some h1 with ⟨x, e1, e2⟩ | ⟨l, μ2, e1, h2⟩
  · dsimp only at e1 e2
    subst e2
    exact rl F1' as1 ρ μ1 σ H1 _ (.error x) μ' e1 sr1' er1' (PErr.ext (x1.trans x1') post)
  refine rl F1' as1 ρ μ1 σ H1 _ (.ok l) μ2 e1 sr1' er1' fun F2 as2 H2 x2 sr2 => ?_
  have er2 := er1'.mono x2
  rcases andThen_some h2 with ⟨x, e3, e4⟩ | ⟨u, μ3, e3, h3⟩
  · dsimp only at e3 e4
    subst e4
    exact rh F2 as2 ρ μ2 σ H2 _ (.error x) μ' e3 sr2 er2 (PErr.ext ((x1.trans x1').trans x2) post)
  refine rh F2 as2 ρ μ2 σ H2 _ (.ok u) μ3 e3 sr2 er2 fun F3 as3 H3 x3 sr3 => ?_
  have rs3 := (rs1.mono x2).mono x3
  have xx := ((x1.trans x1').trans x2).trans x3
  unfold slK at h3
  split at h3
  · rename_i d hd
    have vd := view_rs sr3 rs3 hd
    unfold dSl at h3
    cases d with
    | lst ds =>
      cases h3
      obtain ⟨p, vs, rfl, hp, rv⟩ := vr_lst sr3 vd
      refine .inl ⟨p, vs, rfl, SqL.of hp, fun q hq => ?_⟩
      obtain ⟨sr4, f4, n4⟩ := sr3.loose (o := .lst (cutV vs l u)) hq
      exact post F3 as3 (.ref q) _ xx sr4 (ra_lst upd_same f4 n4 (cut_reps rv))
    | tup ds =>
      cases h3
      obtain ⟨p, vs, rfl, hp, rv⟩ := vr_tup sr3 vd
      refine .inr ⟨p, vs, rfl, hK ▸ hp, fun hw => ?_, fun _ q hq => ?_⟩
      · rw [rv.length] at hw
        refine post F3 as3 (.ref p) _ xx sr3 (show Rep g _ (.tup (cutD ds l u)) (.ref p) from ?_)
        rw [cutD_whole hw]
        rcases vd with ⟨_, _, _, e', _⟩ | h
        · cases e'
        · exact h
      · obtain ⟨sr4, x4, e4⟩ := sr3.frozen (o := .tup (cutV vs l u)) hq
        refine post _ as3 (.ref q) _ (xx.trans x4) sr4 (show Rep g _ (.tup (cutD ds l u)) (.ref q) from ?_)
        unfold Rep
        exact ⟨q, _, rfl, SqT.of e4, (cut_reps rv).mono x4.1⟩
    | scr ns =>
      cases h3
      obtain ⟨p, rfl, hp⟩ := vr_scr sr3 vd
      refine .inl ⟨p, _, rfl, hK ▸ hp, fun q hq => ?_⟩
      obtain ⟨sr4, f4, n4⟩ := sr3.loose (o := .lst (cutV (ns.map V.int) l u)) hq
      exact post F3 as3 (.ref q) _ xx sr4 (ra_lst upd_same f4 n4 (cut_reps ints_rep))
    | _ => cases h3
  · cases h3
end

/-! ### is, of truths -/
def dIsB : D → D → Option S
  | .bl a, .bl b => some (.val (.bl (a == b)))
  | _, _ => none
def dIsNotB : D → D → Option S
  | .bl a, .bl b => some (.val (.bl (!(a == b))))
  | _, _ => none
section
variable {g : G} {X : Cx}
theorem bool_beq (a b : Bool) : (Value.bool a == Value.bool b) = (a == b) := by cases a <;> cases b <;> rfl
theorem op_isBl : OpR X (compareOp .Is) (fun x y H Q => ∃ a b, x = .bl a ∧ y = .bl b ∧ Q (.bl (a == b)) H) := by
  intro pins s σ H x y v u Q I rx ry h
  obtain ⟨a, b, rfl, rfl, q⟩ := h
  cases (show v = Value.bool a from rx)
  cases (show u = Value.bool b from ry)
  exact wpAny_is_plain rfl (fin_bl I q (bool_beq a b).symm)
theorem op_isnotBl : OpR X (compareOp .IsNot) (fun x y H Q => ∃ a b, x = .bl a ∧ y = .bl b ∧ Q (.bl (!(a == b))) H) := by
  intro pins s σ H x y v u Q I rx ry h
  obtain ⟨a, b, rfl, rfl, q⟩ := h
  cases (show v = Value.bool a from rx)
  cases (show u = Value.bool b from ry)
  exact wpAny_isNot_plain rfl (fin_bl I q (congrArg not (bool_beq a b).symm))
theorem ok_isB : OpOk g X (compareOp .Is) dIsB := by
  intro x y s F as μ H v u Q e sr hx hy k
  unfold dIsB at e
  split at e
  · cases e
    cases vr_bl hx
    cases vr_bl hy
    exact oc op_isBl ⟨_, _, rfl, rfl, k F as _ H .refl sr ra_bl⟩
  · cases e
theorem ok_isnotB : OpOk g X (compareOp .IsNot) dIsNotB := by
  intro x y s F as μ H v u Q e sr hx hy k
  unfold dIsNotB at e
  split at e
  · cases e
    cases vr_bl hx
    cases vr_bl hy
    exact oc op_isnotBl ⟨_, _, rfl, rfl, k F as _ H .refl sr ra_bl⟩
  · cases e
end
end Sz

set_option Elab.async false
set_option linter.all false
set_option maxRecDepth 100000
set_option maxHeartbeats 4000000
/-! Sz Q: a law's call by its promise. -/
namespace Sz
open PySem PySem.Spec PyProof.Rows L2
/-- the heap with nothing but the script in it -/
def scrH (K : PySem.W.Frag) (a : Addr) (o : Obj) (xs : List V) : Hp := fun b => if b = a ∧ K.lookup a = none then some (.frz o (.lst xs)) else none
theorem scrH_some {K : PySem.W.Frag} {a b : Addr} {o : Obj} {xs : List V} {u : HO} (h : scrH K a o xs b = some u) : b = a ∧ K.lookup a = none ∧ u = .frz o (.lst xs) := by
  unfold scrH at h
  by_cases c : b = a ∧ K.lookup a = none
  · rw [if_pos c] at h
    exact ⟨c.1, c.2, (Option.some.inj h).symm⟩
  · rw [if_neg c] at h
    cases h
theorem law_runs {P : Program} {w : World} {K : PySem.W.Frag} {mg mb : Str → Option Value} {gb : Bool} {k : Nat} {fa a : Addr} {fd : FuncData} {x : Str} {sp : Sp} {st : Shared} {vs : List Value} {ns : List Int}
    (inK : K.In st.heap) (gl : st.heap.Ns mainGlobals mg) (bl : st.heap.Ns builtinsNs mb) (blb : ∀ x : Str, x ≠ "__name__" → mb x = bootBuiltins x) (nl : st.heap.NoLimit) (gens : st.gens = #[])
    (there : st.heap.get? a = some { cls := .type "list", data := .seq vs.toArray }) (nums : IntsAre vs ns) (small : ns.length ≤ sizeLine) (room : Room k callerA)
    (F : ∀ base : Heap, K.In base → base.Ns mainGlobals mg → FnG gb P w K mg base (CX P w) k fa fd [x] sp) (bind : ∀ (s : Shared) (u : Value), BindsTo s fd ⟨[u], []⟩ [(x, u)])
    (ask : ∀ H : Hp, SqL K H a (ns.map V.int) → sp [.ref a] H (fun v _ => v = .bl true) fun _ _ _ => False) :
    codeAny (model P w) callerA (.call (.ref fa) ⟨[.ref a], []⟩) (fun r s' => r = .ok (.ret (.bool true)) ∧ OldK st.heap s'.heap ∧ s'.os = st.os ∧ AllBare s'.gens) st := by
  have iv := vals_ints nums
  have ln := nums.length
  let o : Obj := { cls := .type "list", data := .seq vs.toArray }
  let H := scrH K a o (ns.map V.int)
  have only : ∀ {b : Addr} {u : HO}, H b = some u → b = a ∧ K.lookup a = none ∧ u = .frz o (.lst (ns.map V.int)) := fun h => scrH_some h
  have free : ∀ {b : Addr}, b ≠ a → H b = none := fun {b} n => if_neg fun c => n c.1
  have notDict : ∀ {b : Addr} {ob : Obj} {es : Array DictEntry} {ep : Nat}, st.heap.get? b = some ob → ob.data = .dict es ep → H b = none := by
    intro b ob es ep e d
    refine free fun z => ?_
    subst z
    have e' := there.symm.trans e
    cases e'
    exact Data.noConfusion d
  have hok : HOk P w H st.heap := by
    intro b u h
    obtain ⟨rfl, _, rfl⟩ := only h
    exact ⟨there, by rw [List.length_map]; exact small, vs, _, iv, there⟩
  have kept : ∀ {b : Addr} {m : Str → Option Value}, st.heap.Ns b m → (hidT st.heap H).Ns b m := fun {b m} ⟨ob, es, ep, e, d, r⟩ => ⟨ob, es, ep, hidT_get e (notDict e d), d, r⟩
  have kIn : K.In (hidT st.heap H) := fun b ob e => hidT_get (inK b ob e) (by
    cases q : H b with
    | none => rfl
    | some u =>
      obtain ⟨rfl, n, _⟩ := only q
      rw [n] at e
      cases e)
  have md : Mod K mg (hidT st.heap H) := ⟨kIn, kept gl, ⟨mb, kept bl, blb⟩, let ⟨mc, c1, c2⟩ := nl; ⟨mc, kept c1, c2⟩⟩
  have en : Env0 P w K mg (hidT st.heap H) callerA [] st H := ⟨rfl, md, fun b ob e => of_hidT e, Nat.le_of_eq (hidT_size _ _), trivial, fun b hb => absurd hb (List.not_mem_nil), hok, .of_eq gens⟩
  have scr : SqL K H a (ns.map V.int) := by
    cases hk : K.lookup a with
    | none => exact .inl (.inr ⟨o, if_pos ⟨rfl, hk⟩⟩)
    | some ob =>
      have e := (inK a ob hk).symm.trans there
      cases e
      exact .inr ⟨_, vs.toArray, _, hk, rfl, rfl, rfl, by rw [List.size_toArray, ln]; exact small, by simpa using iv⟩
  refine codeAny_mono ((F _ kIn (kept gl)).go callerA [] st H ⟨[.ref a], []⟩ [.ref a] [.ref a] _ _ room (fun _ => rfl) en (bind st (.ref a)) (.cons rfl .nil) (ask H scr)) fun r s' told => ?_
  cases r with
  | error e =>
    obtain ⟨_, _, _, _, _, _, _, _, _, _, _, _, z⟩ := told
    exact z.elim
  | ok fl =>
    cases fl with
    | ret u =>
      obtain ⟨v, H', os, bare, un, hok', rv, q⟩ := told
      obtain rfl : v = .bl true := q
      obtain rfl : u = Value.bool true := rv
      refine ⟨rfl, OldK.of_keep fun b ob e => ?_, os, bare⟩
      cases q : H b with
      | none => exact un.keep b ob e q (fun z => absurd z List.not_mem_nil) (fun z => absurd z List.not_mem_nil)
      | some u =>
        obtain ⟨rfl, _, rfl⟩ := only q
        obtain ⟨e2, _⟩ := hok' b _ (un.frzs b o _ q)
        have e1 := there.symm.trans e
        cases e1
        exact e2
    | next => exact False.elim told
    | brk => exact False.elim told
    | cont => exact False.elim told
/-- the goal behind the head, from the law's promise -/
theorem walk_G {l : PySem.W.OpenLaw} {n k : Nat} {q : Program} {loose : List Str} {XP : (Str → Option Value) → Heap → Prop} {YP : World → Heap → Prop} {d : DefRec} {x : Str} {gb : Bool}
    (most : l.most = some n) (small : n ≤ sizeLine) (dflt : d.params.defaults = []) (room : Room k callerA)
    (F : ∀ (w : World) (mg : Str → Option Value) (fa : Addr) (h : Heap), YP w h → h.Ns mainGlobals mg → mg d.name = some (.ref fa) →
      ∃ (K : PySem.W.Frag) (fd : FuncData) (sp : Sp), K.In h ∧ (∀ (s : Shared) (u : Value), BindsTo s fd ⟨[u], []⟩ [(x, u)]) ∧
        (∀ (H : Hp) (a : Addr) (ns : List Int), ns.length ≤ n → SqL K H a (ns.map V.int) → sp [.ref a] H (fun v _ => v = .bl true) fun _ _ _ => False) ∧
        ∀ base : Heap, K.In base → base.Ns mainGlobals mg → FnG gb l.prog w K mg base (CX l.prog w) k fa fd [x] sp) :
    PySem.W.WalkO q loose XP YP l.row.toRowW d [] (fun f vs => PySem.call f vs) := by
  refine Att.attach_call most dflt fun w s0 s1 mg mb fa o pm cd doc a vs ns Gr Y at_ dt code named script nums few gens => ?_
  obtain ⟨K, fd, sp, inK, bind, ask, prom⟩ := F w mg fa _ Y Gr.T.g named
  exact law_runs inK Gr.T.g Gr.T.b Gr.T.builtins Gr.T.nolimit gens script nums (Nat.le_trans few small) room prom bind fun H q => ask H a ns few q
end Sz

set_option Elab.async false
set_option linter.all false
set_option maxRecDepth 100000
set_option maxHeartbeats 4000000
/-! Sz N: repr of data. -/
namespace Sz
open PySem PySem.Spec L2

mutual
theorem noDict : ∀ {d : D} {p : PyData}, toPy d = some p → p.hasDict = false
  | .non, p, h => by unfold toPy at h; cases h; rfl
  | .bl _, p, h => by unfold toPy at h; cases h; rfl
  | .int _, p, h => by unfold toPy at h; cases h; rfl
  | .str _, p, h => by unfold toPy at h; cases h; rfl
  | .tup ds, p, h => by
    unfold toPy at h
    cases q : toPys ds with
    | none => rw [q] at h; cases h
    | some ps =>
      rw [q] at h
      cases h
      exact noDicts q
  | .lst ds, p, h => by
    unfold toPy at h
    cases q : toPys ds with
    | none => rw [q] at h; cases h
    | some ps =>
      rw [q] at h
      cases h
      exact noDicts q
  | .ty _, _, h => by unfold toPy at h; cases h
  | .obj _ _, _, h => by unfold toPy at h; cases h
  | .fn _, _, h => by unfold toPy at h; cases h
  | .cls _, _, h => by unfold toPy at h; cases h
  | .scr _, _, h => by unfold toPy at h; cases h
  | .dic _ _, _, h => by unfold toPy at h; cases h
  | .exc _ _, _, h => by unfold toPy at h; cases h
theorem noDicts : ∀ {ds : List D} {ps : List PyData}, toPys ds = some ps → PyData.hasDictAll ps = false
  | [], ps, h => by unfold toPys at h; cases h; rfl
  | d :: ds, ps, h => by
    unfold toPys at h
    cases q : toPy d with
    | none => rw [q] at h; simp at h
    | some p =>
      cases q2 : toPys ds with
      | none => rw [q, q2] at h; simp at h
      | some ps' =>
        rw [q, q2] at h
        simp only [Option.some.injEq] at h
        subst h
        show (p.hasDict || PyData.hasDictAll ps') = false
        rw [noDict q, noDicts q2]
        rfl
end
/-- what may be shown -/
def shOk (p : PyData) : Bool := p.showable && (decide (p.depth ≤ 60) && decide (p.shown.length ≤ sizeLine))
def shK : Option PyData → Option S
  | some p => if shOk p = true then some (.val (.str p.shown)) else none
  | none => none
def bRepr : List D → Option S
  | [d] => shK (toPy d)
  | _ => none
section
variable {g : G} {X : Cx}
theorem co_repr (hg : g.K = X.K) (gd : X.A.guards = some []) (hu : X.A.units + 200 < cLine) : CallOk g X (.builtin "repr") bRepr := by
  intro xs s F as μ H vs Q e sr hx k
  unfold bRepr at e
  split at e
  · rename_i d
    obtain ⟨v, rfl, hv⟩ := vrs1 hx
    unfold shK at e
    split at e
    · rename_i p hp
      split at e
      · rename_i hs
        cases e
        unfold shOk at hs
        simp only [Bool.and_eq_true, decide_eq_true_eq] at hs
        obtain ⟨h1, h2, h3⟩ := hs
        have hd : Dp g.K H v p := toPy_vr sr hp hv
        intro pins st σ us I ru
        obtain ⟨u, rfl, r1⟩ := ru.one
        have fin : ∀ (st' : Shared) (t : Tok), Inv X pins σ H st' → EP X pins σ Q (.str p.shown t) st' := fun st' t I' => ⟨.str p.shown, H, I', ⟨t, rfl⟩, k F as _ H .refl sr ra_str⟩
        have big : ∀ a : Addr, v = .ref a → wpAny (model X.prog X.w) X.A (call (.builtin "repr") [u]) (EP X pins σ Q) X.xe st := by
          rintro a rfl
          obtain ⟨as', rd⟩ := Dp.reads I p _ u (hg ▸ hd) r1
          cases r1
          exact repr_of_reads' rd h1 (PyData.noDict_hsm (noDict hp)) gd (by omega) (fun _ _ q => q) (fun h' t tk hk => fin _ t (I.kept (t' := tk) fun b o q => hk b o q)) h3
        cases hd with
        | tup _ _ => exact big _ rfl
        | lst _ _ => exact big _ rfl
        | non =>
          cases (show u = Value.none from r1)
          exact PySem.P.repr_of_none (fin _ _ (I.tok _))
        | bl b =>
          cases (show u = Value.bool b from r1)
          exact PySem.P.repr_of_bool (fin _ _ (I.tok _))
        | int i =>
          obtain ⟨t, rfl⟩ := (show ∃ t, u = Value.int i t from r1)
          exact PySem.P.repr_of_int (of_decide_eq_true h1) (fin _ _ (I.tok _))
        | str x =>
          obtain ⟨t, rfl⟩ := (show ∃ t, u = Value.str x t from r1)
          exact PySem.P.repr_of_str (fin _ _ (I.tok _)) h3
      · cases e
    · cases e
  · cases e
end
end Sz

set_option Elab.async false
set_option linter.all false
set_option maxRecDepth 100000
set_option maxHeartbeats 4000000
/-! Sz O: enumerate of a tuple, zip of tuples. -/
namespace Sz
open PySem PySem.Spec PyProof.Rows L2
open AutoSeq1 (wpAny_loadPart')
open RZ (ItzT pi_zipA)

theorem enum1_new {v : Value} {o : Obj} {Hd : Heap → Prop} (B : Begins v o Hd) :
    Meets (Builtin.«enumerate.__new__» ⟨[.type "enumerate", v], []⟩) (fun _ R st => Hd st.heap ∧
      R (.ok (.ret (.ref (st.heap.push o).objs.size))) { st with heap := (st.heap.push o).push { cls := .type "enumerate", data := .fields #[.none, .bool false, .ref st.heap.objs.size, rawInt 0, .none, .none] } }) :=
  .of_wp fun P w A R st told => by
    obtain ⟨hp, gs, dr, tk, os⟩ := st
    obtain ⟨there, goal⟩ := told
    have sub := sub_enumerate
    have it1 : ∀ {A' : Around} {E : Value → Shared → Prop} {Q : Value → Shared → Prop}, Q (.ref hp.objs.size) ⟨hp.push o, gs, dr, tk, os⟩ → wpAny (model P w) A' (pyIter v) Q E ⟨hp, gs, dr, tk, os⟩ :=
      fun q => B.iter P w _ _ ⟨hp, gs, dr, tk, os⟩ _ there q
    wp_walk using it1
    refine wpAny_stack_any fun _ => wpAny_pure ?_
    split
    · rename_i c _ _ _ _ _
      cases (c == Value.type "enumerate") <;>
      · wp_walk using it1
        exact ⟨_, rfl, goal⟩
    · wp_walk using it1
      exact ⟨_, rfl, goal⟩
theorem call_enum1 {P : Program} {w : World} {A : Around} {E : Value → Shared → Prop} {st : Shared} {v : Value} {o : Obj} {Hd : Heap → Prop} {Q : Value → Shared → Prop} (B : Begins v o Hd) (there : Hd st.heap)
    (goal : ∀ h', IsEnum h' (st.heap.objs.size + 1) st.heap.objs.size 0 .none → h'.get? st.heap.objs.size = some o → (∀ b ob, st.heap.get? b = some ob → h'.get? b = some ob) → Q (.ref (st.heap.objs.size + 1)) { st with heap := h' }) :
    wpAny (model P w) A (call (.type "enumerate") [v]) Q E st := by
  have size1 : (st.heap.push o).objs.size = st.heap.objs.size + 1 := Heap.size_push ..
  have en : IsEnum ((st.heap.push o).push { cls := .type "enumerate", data := .fields #[.none, .bool false, .ref st.heap.objs.size, rawInt 0, .none, .none] }) (st.heap.objs.size + 1) st.heap.objs.size 0 .none := by
    have z := Heap.get?_push_size (st.heap.push o) (o := { cls := .type "enumerate", data := .fields #[.none, .bool false, .ref st.heap.objs.size, rawInt 0, .none, .none] }) rfl
    rw [size1] at z
    exact z
  refine callType_new F.called_enumerate (by decide) (F.typeCall_enumerate_1 _) (F.newCall_enumerate_1 _) (fun ob => F.args_object_init_2 ob _) F.entry_enumerate_new (enum1_new B) ⟨there, ?_⟩
  show _ ∧ _
  rw [size1]
  exact ⟨⟨_, en, rfl⟩, goal _ en (Heap.get?_push_of_some _ (Heap.get?_push_size _ B.free)) fun b ob x => Heap.get?_push_of_some _ (Heap.get?_push_of_some _ x)⟩
/-- the tuple at a, each item in a new pair with its number -/
def IteT (K : PySem.W.Frag) (a : Addr) : It :=
  ⟨fun i H => ∃ (xs : List V) (x : V), SqT K H a xs ∧ xs[i]? = some x,
    fun i H v H' => ∃ T x, v = .ref T ∧ H T = none ∧ H' = upd H T (.tup [.int (i : Nat), x]) ∧ ∀ xs, SqT K H a xs → xs[i]? = some x,
    fun i H => ∃ xs : List V, SqT K H a xs ∧ xs.length = i⟩
theorem turn_enumT {P : Program} {w : World} {K : PySem.W.Frag} {elts : List Expr} {kk : Nat} {tpos : Pos} (a e it : Addr) :
    Turn P w K (.Tuple elts kk tpos) (IteT K a) [e, it] e (fun i h => (∃ old, IsEnum h e it ((i : Nat) : Int) old) ∧ h.IsTupleIter it a i ∧ e ≠ it ∧ a ≠ it ∧ e ≠ a) where
  mem := by simp
  obj := fun i h told b hb => by
    obtain ⟨⟨old, en⟩, ⟨o, ho, hc, hd⟩, _⟩ := told
    rcases (show b = e ∨ b = it by simpa using hb) with rfl | rfl
    · exact ⟨_, en, fun v q => nomatch q⟩
    · exact ⟨o, ho, fun v q => by rw [hd] at q; cases q⟩
  keep := fun i h h' told k => by
    obtain ⟨⟨old, en⟩, ti, rest⟩ := told
    exact ⟨⟨old, k e (by simp) _ en⟩, ti.at fun o q => k it (by simp) o q, rest⟩
  item := by
    intro X hP hw hK hc i pins st σ H E I hf told hg
    subst hP hw hK
    obtain ⟨⟨old, en⟩, ti, n1, n2, n3⟩ := told
    obtain ⟨xs, x, hq, hx⟩ := hg
    obtain ⟨its, rv, tp, hz⟩ := I.tuple hq
    obtain ⟨u, hu, ru⟩ := rv.get hx
    have le : e < st.heap.objs.size := Heap.lt_size en
    have li : it < st.heap.objs.size := by
      obtain ⟨_, q, _⟩ := ti
      exact Heap.lt_size q
    have isT : st.heap.IsTuple a its.toArray := by
      obtain ⟨o, c1, c2, n, c3⟩ := tp
      exact ⟨o, c1, c2, n, c3⟩
    have li2 : i < its.toArray.size := by
      rw [List.size_toArray, ← rv.length]
      exact (List.getElem?_eq_some_iff.mp hx).1
    have Dr := Draws.tuple (prog := X.prog) (w := X.w) (A := X.A.in1) (I.ok.hd hc) it a n2 its.toArray
    refine wpAny_pyNext_enum_itemD Dr en ⟨ti, isT⟩ li2 n1 (by simp [n1, n3]) fun x' h' tk hx' out st2 hT hsz hk => ?_
    obtain ⟨ti2, isT2⟩ := st2
    have ex : x' = u := by
      have z : its.toArray[i]? = some u := by simpa using hu
      rw [hx'] at z
      exact Option.some.inj z
    subst ex
    refine ⟨_, rfl, wpAny_letOwnedTupleGo_enum (s := { st with heap := h', toks := tk + 1 }) out fun h'' en' sb => ?_⟩
    have hT2 : h''.get? st.heap.objs.size = some { cls := .type "tuple", data := .seq #[.int i tk, x'] } := (sb.2 _ (Nat.ne_of_gt le)).trans hT
    have new : ObjOk X.prog X.w (upd H st.heap.objs.size (.tup [.int (i : Nat), x])) h'' st.heap.objs.size (.tup [.int (i : Nat), x]) := by
      refine ⟨?_, [.int i tk, x'], .cons ⟨_, rfl⟩ (.cons ru .nil), ⟨_, hT2, rfl, _, rfl⟩⟩
      show 2 ≤ sizeLine
      decide
    have apart : ∀ b ob, b ∉ [e, it] → st.heap.get? b = some ob → h''.get? b = some ob := fun b ob hb q =>
      (sb.2 b fun z => hb (by simp [z])).trans (hk b ob (fun z => hb (by simp [z])) (fun z => hb (by simp [z])) q)
    have I1 := I.turnedNew (t' := tk + 1) apart hf (Nat.le_refl _) new
    refine ⟨.ref st.heap.objs.size, _, I1, rfl, ⟨_, x, rfl, I.hok.fresh (Nat.le_refl _), rfl, fun ys hy => by rw [I.tuple_inj hy hq]; exact hx⟩, ⟨⟨x', ?_⟩, ti2.at fun o q => (sb.2 it (Ne.symm n1)).trans q, n1, n2, n3⟩, fun b hb => ?_⟩
    · have e1 : ((i + 1 : Nat) : Int) = (i : Int) + 1 := by omega
      rw [e1]
      exact en'
    · have below : b < st.heap.objs.size := by
        rcases (show b = e ∨ b = it by simpa using hb) with rfl | rfl
        · exact le
        · exact li
      rw [upd_ne (Nat.ne_of_lt below)]
      exact (hf b hb).1
  done := by
    intro X hP hw hK hc i pins st σ H E I hf told hg
    subst hP hw hK
    obtain ⟨⟨old, en⟩, ti, n1, n2, n3⟩ := told
    obtain ⟨xs, hq, hx⟩ := hg
    obtain ⟨its, rv, tp, hz⟩ := I.tuple hq
    have isT : st.heap.IsTuple a its.toArray := by
      obtain ⟨o, c1, c2, n, c3⟩ := tp
      exact ⟨o, c1, c2, n, c3⟩
    obtain ⟨f0, f1, f2, f3, f4, f5⟩ := hf it (by simp)
    have li2 : its.toArray.size = i := by
      rw [List.size_toArray, ← rv.length]
      exact hx
    subst li2
    have Dr := Draws.tuple (prog := X.prog) (w := X.w) (A := X.A.in1) (I.ok.hd hc) it a n2 its.toArray
    exact wpAny_pyNext_enum_endD Dr en ⟨ti, isT⟩ fun h' eb => ⟨rfl, I.turned (t' := st.toks) (fun b o hb q => eb b o hb q) f0 f1 f3 f4 f5⟩
  self := fun A i st Q E told h => by
    obtain ⟨⟨_, en⟩, _⟩ := told
    exact wpAny_pyIter_enum en h
/-- enumerate(e), e a list or a tuple -/
def iEnumA (K : PySem.W.Frag) (ta : TA) : TI := fun σ H R => ta σ H fun vs H1 => ∃ a, vs = [.ref a] ∧ ((∃ xs, SqL K H1 a xs ∧ R (Ite K a) H1) ∨ ∃ xs, SqT K H1 a xs ∧ R (IteT K a) H1)
theorem pi_enumA {X : Cx} {e : Expr} {ta : TA} {p pos tpos : Pos} {elts : List Expr} {kk : Nat} (gl : Gl X "enumerate") (hm : X.mg "enumerate" = none) (ha : PA X [e] ta) (hs : starEach [e] X.env = [(false, eval e X.env)]) :
    PI X (.Tuple elts kk tpos) (.Call (.Name "enumerate" p) [e] [] pos) (iEnumA X.K ta) := by
  refine ⟨fun pins s σ H R I told => ?_⟩
  refine Call_ (ld_blt I gl hm boot_enumerate (callWith_type1 (thn (ha.run pos pins s σ H _ I told) fun us s1 ⟨vs, H1, I1, r1, q1⟩ => ?_) hs rfl))
  obtain ⟨a, ex, q⟩ := q1
  subst ex
  obtain ⟨u, rfl, ru⟩ := r1.one
  cases (show u = Value.ref a from ru)
  have foot : ∀ b ∈ [s1.heap.objs.size + 1, s1.heap.objs.size], FpOk X pins H1 b := fun b hb => by
    have hle : s1.heap.objs.size ≤ b := by
      rcases (show b = s1.heap.objs.size + 1 ∨ b = s1.heap.objs.size by simpa using hb) with rfl | rfl
      · exact Nat.le_succ _
      · exact Nat.le_refl _
    exact I1.fpOk hle (I1.hok.fresh hle)
  rcases q with ⟨xs, hq, q⟩ | ⟨xs, hq, q⟩
  · obtain ⟨its, rv, pl, hz⟩ := I1.list hq
    refine call_enumerate_list pl.isList fun h' he hit hsz hk => wpAny_pyIter_enum he ?_
    exact ⟨s1.heap.objs.size + 1, [s1.heap.objs.size + 1, s1.heap.objs.size], _, _, H1, rfl, I1.kept (t' := s1.toks) hk, turn_enum a (s1.heap.objs.size + 1) s1.heap.objs.size, ⟨⟨.none, he⟩, hit, Nat.succ_ne_self _⟩, foot, q⟩
  · obtain ⟨its, rv, tp, hz⟩ := I1.tuple hq
    have isT : s1.heap.IsTuple a its.toArray := by
      obtain ⟨o, c1, c2, n, c3⟩ := tp
      exact ⟨o, c1, c2, n, c3⟩
    have la : a < s1.heap.objs.size := by
      obtain ⟨o, c1, _⟩ := isT
      exact Heap.lt_size c1
    refine call_enum1 (begins_tuple a its.toArray) isT fun h' he hit hk => wpAny_pyIter_enum he ?_
    exact ⟨s1.heap.objs.size + 1, [s1.heap.objs.size + 1, s1.heap.objs.size], _, _, H1, rfl, I1.kept (t' := s1.toks) hk, turn_enumT a (s1.heap.objs.size + 1) s1.heap.objs.size,
      ⟨⟨.none, he⟩, ⟨_, hit, rfl, rfl⟩, Nat.succ_ne_self _, Nat.ne_of_lt la, Nat.ne_of_gt (Nat.lt_succ_of_lt la)⟩, foot, q⟩
section
variable {g : G} {X : Cx} {W : WX} {F0 : Hp} {e : Expr} {m : ME} {p pos : Pos}
theorem jok_enumT {a : Addr} {xs : List V} {ds : List D} (h : SqT g.K F0 a xs) (r : Reps g F0 ds xs) : JOk g (IteT g.K a) F0 (enumD 0 ds) := by
  intro F as μ H e sr i
  have hs : SqT g.K H a xs := seqT_mono sr.sub (seqT_mono e h)
  refine ⟨fun hi => ⟨xs, hs, by rw [r.length, hi, enumD_len]⟩, fun d hd => ?_⟩
  rw [enumD_get] at hd
  obtain ⟨d', h0, rfl⟩ := Option.map_eq_some_iff.mp hd
  obtain ⟨v, h1, h2⟩ := r.get h0
  refine ⟨⟨xs, v, hs, h1⟩, fun x H' ⟨T, x', e1, e2, e3, e4⟩ => ?_⟩
  subst e1 e3
  have := e4 xs hs
  rw [h1] at this
  cases this
  obtain ⟨sr', x', y'⟩ := sr.frozen (o := .tup [.int (i : Nat), v]) e2
  refine ⟨_, x', sr', ?_⟩
  unfold Rep
  refine ⟨T, _, rfl, SqT.of y', Reps.cons ?_ (Reps.cons ((h2.mono e).mono x'.1) Reps.nil)⟩
  unfold Rep
  rw [Nat.zero_add]
def seqOf : D → Option (List D)
  | .lst ds => some ds
  | .tup ds => some ds
  | _ => none
def enumK (d : D) : Option (List D) := (seqOf d).map (enumD 0)
def iEnum2 (m : ME) : MI := fun ρ μ => andThen (m ρ μ) (finI enumK)
theorem si_enum2 {elts : List Expr} {kk : Nat} {tpos : Pos} (hK : g.K = X.K) (hg : Gl X "enumerate") (hm : X.mg "enumerate" = none) (hn : notStar e = true) (ha : SE g X W e m) :
    SI g X W (.Tuple elts kk tpos) (.Call (.Name "enumerate" p) [e] [] pos) (iEnum2 m) := by
  refine ⟨fun F as ρ μ σ H R r μ' h sr er post => wI (pi_enumA hg hm pa_wp (by rw [starEach_cons hn]; rfl)) ?_⟩
  show wpA X [e] σ H _
  have key : wpE X e σ H fun x H1 => ∃ a, x = .ref a ∧ ((∃ xs, SqL X.K H1 a xs ∧ R (Ite X.K a) H1) ∨ ∃ xs, SqT X.K H1 a xs ∧ R (IteT X.K a) H1) := by
    refine ha.then_ (show andThen _ _ = some (r, μ') from h) sr er (fun x e => by subst e; exact post) fun s1 μ1 F1 as1 v H1 h1 x1 sr1 er1 ra1 => ?_
    obtain ⟨F2, x2, sr2, rs2⟩ := root_ok sr1 ra1
    unfold finI at h1
    split at h1
    · rename_i d μ2 hd
      obtain ⟨F3, x3, sr3, r3⟩ := toD_rs sr2 rs2 hd
      split at h1
      · rename_i ds hds
        cases h1
        obtain ⟨l, h2, rfl⟩ := Option.map_eq_some_iff.mp hds
        unfold seqOf at h2
        split at h2
        · cases h2
          unfold Rep at r3
          obtain ⟨a, vs, rfl, h3, h4⟩ := r3
          exact ⟨a, rfl, .inl ⟨vs, SqL.of (sr3.sub _ _ h3), by rw [← hK]; exact post F3 as1 H1 _ ((x1.trans x2).trans x3) sr3 (jok_enum h3 h4)⟩⟩
        · cases h2
          unfold Rep at r3
          obtain ⟨a, vs, rfl, h3, h4⟩ := r3
          exact ⟨a, rfl, .inr ⟨vs, hK ▸ seqT_mono sr3.sub h3, by rw [← hK]; exact post F3 as1 H1 _ ((x1.trans x2).trans x3) sr3 (jok_enumT h3 h4)⟩⟩
        · cases h2
      · cases h1
    · cases h1
  exact wA (pa_cons pe_wp pa_nil (starEach_cons hn)) (wpE_mono key fun v H' ⟨a, e1, e2⟩ => ⟨a, by rw [e1], e2⟩)
theorem jok_zipT {a b : Addr} {xs ys : List V} {ds es : List D} (h : SqT g.K F0 a xs) (r : Reps g F0 ds xs) (h' : SqT g.K F0 b ys) (r' : Reps g F0 es ys) : JOk g (ItzT g.K a b) F0 (zipD ds es) := by
  intro F as μ H e sr i
  have hs : SqT g.K H a xs := seqT_mono sr.sub (seqT_mono e h)
  have hs' : SqT g.K H b ys := seqT_mono sr.sub (seqT_mono e h')
  refine ⟨fun hi => ⟨xs, ys, hs, hs', ?_⟩, fun d hd => ?_⟩
  · rw [zipD_len] at hi
    rw [r.length, r'.length]
    omega
  obtain ⟨d1, d2, k1, k2, rfl⟩ := zipD_get hd
  obtain ⟨v, h1, h2⟩ := r.get k1
  obtain ⟨u, h3, h4⟩ := r'.get k2
  refine ⟨⟨xs, ys, v, u, hs, hs', h1, h3⟩, fun x H' ⟨T, x', y', e1, e2, e3, e4, e5⟩ => ?_⟩
  subst e1 e3
  have q1 := e4 xs hs
  rw [h1] at q1
  cases q1
  have q2 := e5 ys hs'
  rw [h3] at q2
  cases q2
  obtain ⟨sr', x', y'⟩ := sr.frozen (o := .tup [v, u]) e2
  refine ⟨_, x', sr', ?_⟩
  unfold Rep
  exact ⟨T, _, rfl, SqT.of y', Reps.cons ((h2.mono e).mono x'.1) (Reps.cons ((h4.mono e).mono x'.1) Reps.nil)⟩
def finZ2 (s t : S) (μ : Sto) : Option (Except Ex (List D) × Sto) := match toD μ (rt s) with
  | some (.lst ds, μ2) => (match toD μ2 (rt t) with
    | some (.lst es, μ3) => some (.ok (zipD ds es), μ3)
    | _ => none)
  | some (.tup ds, μ2) => (match toD μ2 (rt t) with
    | some (.tup es, μ3) => some (.ok (zipD ds es), μ3)
    | _ => none)
  | _ => none
def iZip2 (a b : ME) : MI := fun ρ μ => andThen (mArgs [a, b] ρ μ) fun ss μ1 => match ss with
  | [s, t] => finZ2 s t μ1
  | _ => none
theorem si_zip2 {e2 : Expr} {m2 : ME} {elts : List Expr} {kk : Nat} {tpos : Pos} (hK : g.K = X.K) (hg : Gl X "zip") (hm : X.mg "zip" = none) (hn : notStar e = true) (hn2 : notStar e2 = true) (ha : SE g X W e m) (hb : SE g X W e2 m2) :
    SI g X W (.Tuple elts kk tpos) (.Call (.Name "zip" p) [e, e2] [] pos) (iZip2 m m2) := by
  refine ⟨fun F as ρ μ σ H R r μ' h sr er post => wI (pi_zipA hg hm pa_wp (by rw [starEach_cons hn]) (starEach_plain (by rw [List.all_cons, hn2]; rfl))) ?_⟩
  refine (sa_cons hn ha (sa_cons hn2 hb sa_nil)).then_ (show andThen _ _ = some (r, μ') from h) sr er (fun x e => by subst e; exact post) fun ss μ1 F1 as1 vs H1 h1 x1 sr1 er1 rs1 => ?_
  split at h1
  · rename_i s t
    cases rs1 with
    | cons r1 r2 => cases r2 with
      | cons r2 r3 =>
        cases r3
        unfold finZ2 at h1
        split at h1
        · rename_i ds μ2 hd
          obtain ⟨F2', x2', sr2', rs2'⟩ := root_ok sr1 r1.ra
          obtain ⟨F2, x2, sr2, q2⟩ := toD_rs sr2' rs2' hd
          split at h1
          · rename_i es μ3 he
            cases h1
            obtain ⟨F3', x3', sr3', rs3'⟩ := root_ok sr2 ((r2.mono x2').mono x2).ra
            obtain ⟨F3, x3, sr3, q3⟩ := toD_rs sr3' rs3' he
            have q2' := (q2.mono x3'.1).mono x3.1
            unfold Rep at q2' q3
            obtain ⟨a, vs, rfl, h3, h4⟩ := q2'
            obtain ⟨b, us, rfl, h5, h6⟩ := q3
            exact ⟨a, b, vs, us, rfl, .inl ⟨SqL.of (sr3.sub _ _ h3), SqL.of (sr3.sub _ _ h5), by rw [← hK]; exact post F3 as1 H1 _ ((((x1.trans x2').trans x2).trans x3').trans x3) sr3 (jok_zip h3 h4 h5 h6)⟩⟩
          · cases h1
        · rename_i ds μ2 hd
          obtain ⟨F2', x2', sr2', rs2'⟩ := root_ok sr1 r1.ra
          obtain ⟨F2, x2, sr2, q2⟩ := toD_rs sr2' rs2' hd
          split at h1
          · rename_i es μ3 he
            cases h1
            obtain ⟨F3', x3', sr3', rs3'⟩ := root_ok sr2 ((r2.mono x2').mono x2).ra
            obtain ⟨F3, x3, sr3, q3⟩ := toD_rs sr3' rs3' he
            have q2' := (q2.mono x3'.1).mono x3.1
            unfold Rep at q2' q3
            obtain ⟨a, vs, rfl, h3, h4⟩ := q2'
            obtain ⟨b, us, rfl, h5, h6⟩ := q3
            exact ⟨a, b, vs, us, rfl, .inr ⟨hK ▸ seqT_mono sr3.sub h3, hK ▸ seqT_mono sr3.sub h5, by rw [← hK]; exact post F3 as1 H1 _ ((((x1.trans x2').trans x2).trans x3').trans x3) sr3 (jok_zipT h3 h4 h5 h6)⟩⟩
          · cases h1
        · cases h1
  · cases h1

/-! ### range by a step -/
def rangeS (lo c : Int) (n : Nat) : List D := (List.range n).map fun (i : Nat) => .int (lo + i * c)
theorem jok_rangeS {lo c : Int} {n : Nat} : JOk g (Itc lo c n) F0 (rangeS lo c n) := by
  intro F as μ H e sr i
  unfold rangeS
  refine ⟨fun hi => ?_, fun d hd => ?_⟩
  · rw [List.length_map, List.length_range] at hi
    exact Nat.le_of_eq hi.symm
  rw [List.getElem?_map] at hd
  obtain ⟨k, h1, rfl⟩ := Option.map_eq_some_iff.mp hd
  obtain ⟨h2, h3⟩ := List.getElem?_eq_some_iff.mp h1
  rw [List.length_range] at h2
  rw [List.getElem_range] at h3
  subst h3
  refine ⟨h2, fun y H' ⟨e1, e2⟩ => ?_⟩
  subst e1 e2
  exact ⟨F, .refl, sr, by unfold Rep; rfl⟩


def stepOk (i j c : Int) : Bool := decide (c ≠ 0) && (decide (c.natAbs < 1073741824) && (Builtin.Range.small i j c && decide (Builtin.Range.rangeSize i j c = ((Builtin.Range.rangeSize i j c).toNat : Int))))
def iRange3 (a b c : ME) : MI := fun ρ μ => andThen (mArgs [a, b, c] ρ μ) fun ss μ1 => match vws μ1 ss with
  | some [.int i, .int j, .int k] => if stepOk i j k then some (.ok (rangeS i k (Builtin.Range.rangeSize i j k).toNat), μ1) else none
  | _ => none
theorem vrs3 {F H : Hp} {d d' d'' : D} {vs : List V} (h : VRs g F H [d, d', d''] vs) : ∃ v u t, vs = [v, u, t] ∧ VR g F H d v ∧ VR g F H d' u ∧ VR g F H d'' t := by
  cases h with
  | cons h t => cases t with
    | cons h' t => cases t with
      | cons h'' t => cases t; exact ⟨_, _, _, rfl, h, h', h''⟩
theorem si_range3 {tg e2 e3 : Expr} {m2 m3 : ME} (hg : Gl X "range") (hm : X.mg "range" = none) (hn : notStar e = true) (hn2 : notStar e2 = true) (hn3 : notStar e3 = true) (ha : SE g X W e m) (hb : SE g X W e2 m2) (hc : SE g X W e3 m3) :
    SI g X W tg (.Call (.Name "range" p) [e, e2, e3] [] pos) (iRange3 m m2 m3) := by
  refine ⟨fun F as ρ μ σ H R r μ' h sr er post => wI (pi_range3 hg hm pa_wp (by rw [starEach_cons hn]) (starEach_plain (by rw [List.all_cons, hn2, List.all_cons, hn3]; rfl))) ?_⟩
  refine (sa_cons hn ha (sa_cons hn2 hb (sa_cons hn3 hc sa_nil))).then_ (show andThen _ _ = some (r, μ') from h) sr er (fun x e => by subst e; exact post) fun ss μ1 F1 as1 vs H1 h1 x1 sr1 er1 rs1 => ?_
  split at h1
  · rename_i i j k hv
    split at h1
    · rename_i hz
      cases h1
      obtain ⟨v, u, t, rfl, h2, h3, h4⟩ := vrs3 (views_rs sr1 rs1 hv)
      cases vr_int h2
      cases vr_int h3
      cases vr_int h4
      unfold stepOk at hz
      simp only [Bool.and_eq_true, decide_eq_true_eq] at hz
      exact ⟨i, j, k, (Builtin.Range.rangeSize i j k).toNat, rfl, ⟨hz.1, hz.2.1, hz.2.2.1, hz.2.2.2⟩, post F1 as1 H1 _ x1 sr1 jok_rangeS⟩
    · cases h1
  · cases h1
end
end Sz

set_option Elab.async false
set_option linter.all false
set_option maxRecDepth 100000
set_option maxHeartbeats 4000000
/-! Sz R: constants, tables and defs of the module as values. -/
namespace Sz
open PySem PySem.Spec PyProof.Rows L2

section
variable {g : G} {P : Program} {w : World} {mg : Str → Option Value} {base : Heap} {k : Nat} {N : List Str} {sc : Scope} {own cm gb : Bool} {X : Cx} {W : WX} {i : Nat} {x : Str} {frees globs : List Str}
/-- a whole number of the module -/
theorem Ct.gint {j : Int} {p : Pos} (c : Ct g P w mg base k N sc own cm gb X W) (hg : glB sc x = true) (h : ∃ t, mg x = some (.int j t)) : SE g X W (.Name x p) (mK (.int j)) := by
  obtain ⟨t, h⟩ := h
  exact se_k (v := .int j) (pe_glob (c.gl hg).1 (by rw [c.hmg]; exact h) ⟨t, rfl⟩ (c.gl hg).2.1) fun F => by unfold Rep; rfl
theorem Ct.gstr {z : Str} {p : Pos} (c : Ct g P w mg base k N sc own cm gb X W) (hg : glB sc x = true) (h : ∃ t, mg x = some (.str z t)) : SE g X W (.Name x p) (mK (.str z)) := by
  obtain ⟨t, h⟩ := h
  exact se_k (v := .str z) (pe_glob (c.gl hg).1 (by rw [c.hmg]; exact h) ⟨t, rfl⟩ (c.gl hg).2.1) fun F => by unfold Rep; rfl
/-- a def or a table of the module -/
theorem Ct.fnName {n : Nat} {p : Pos} (c : Ct g P w mg base k N sc own cm gb X W) (T : Tb g mg frees globs) (hg : glB sc x = true) (hf : globs.contains x = true) (hc : g.fad n = He.ga g.K x) : SE g X W (.Name x p) (mK (.fn n)) :=
  se_k (v := .ref (He.ga g.K x)) (pe_glob (c.gl hg).1 (by rw [c.hmg]; exact (T.gl x hf).1) rfl (c.gl hg).2.1) fun F => by unfold Rep; rw [hc]
end

/-! ### tables with text keys -/
abbrev Tab := List (Str × D)
structure TbF (g : G) (w : World) (tabs : Nat → Option Tab) : Prop where
  ok : ∀ i tab, tabs i = some tab → ∃ es n, KDict g.K w (g.fad i) es n ∧ ∀ z : Str,
    (∀ d, tab.lookup z = some d → ∃ u v, PySem.W.nsIn g.K (g.fad i) z = some (some u) ∧ RelV v u ∧ ∀ F, Rep g F d v) ∧ (tab.lookup z = none → PySem.W.nsIn g.K (g.fad i) z = some none)
  keys : ∀ i tab, tabs i = some tab → He.dicW g.K (g.fad i) = some (He.keysIn w.params (tab.map (·.1)))
def tabIx (tab : Tab) (z : Str) : Option S := (tab.lookup z).map .val
def dIxT (tabs : Nat → Option Tab) : D → D → Option S
  | .fn i, .str z => (match tabs i with
    | some tab => tabIx tab z
    | none => none)
  | x, y => dIx x y
def tabIn (tab : Tab) (z : Str) : Option S := some (.val (.bl (tab.lookup z).isSome))
def dInT (tabs : Nat → Option Tab) : D → D → Option S
  | .str z, .fn i => (match tabs i with
    | some tab => tabIn tab z
    | none => none)
  | x, y => dIn x y
def dNotInT (tabs : Nat → Option Tab) : D → D → Option S
  | .str z, .fn i => (match tabs i with
    | some tab => some (.val (.bl (!(tab.lookup z).isSome)))
    | none => none)
  | x, y => dNotIn x y
section
variable {g : G} {X : Cx} {W : WX} {a b : Expr} {ma mb : ME} {pos : Pos} {tabs : Nat → Option Tab}
theorem vr_fn {F H : Hp} {n : Nat} {v : V} (h : VR g F H (.fn n) v) : v = .ref (g.fad n) := by
  rcases h with ⟨_, _, _, e, _⟩ | h
  · cases e
  · unfold Rep at h; exact h
theorem se_ixT (hg : g.K = X.K) (TF : TbF g X.w tabs) (ha : SE g X W a ma) (hb : SE g X W b mb) (hs : notSlice b = true) : SE g X W (.Subscript a b pos) (mOp2 (dIxT tabs) ma mb) := by
  refine ⟨fun F as ρ μ σ H Q r μ' h sr er post => wE (pe_ix (r := fun x y H Q => rIxD X.K X.w x y H Q ∨ ∀ (value slice : Expr) (pins : List (Addr × Obj)) (s : Shared) (σ : L2.St) (v u : Value), Inv X pins σ H s → RelV x v → RelV y u →
    subscripted slice false v u = operate [v, u] (getItem v u) → wpAny (model X.prog X.w) X.A (subscriptTail value slice v u) (EP X pins σ Q) X.xe s)
    (fun value slice pins s σ H x y v u Q I rx ry h hs' => h.elim (fun z => ix_kdict value slice pins s σ H x y v u Q I rx ry z hs') fun z => z value slice pins s σ v u I rx ry hs') pe_wp pe_wp (plainIx hs)) ?_⟩
  refine ha.then_ (show andThen _ _ = some (r, μ') from h) sr er (fun x e => by subst e; exact post) fun s1 μ1 F1 as1 v1 H1 h1 x1 sr1 er1 ra1 => ?_
  obtain ⟨F1', x1', sr1', rs1⟩ := root_ok sr1 ra1
  refine hb.then_ h1 sr1' (er1.mono x1') (fun x e => by subst e; exact PErr.ext (x1.trans x1') post) fun s2 μ2 F2 as2 v2 H2 h2 x2 sr2 er2 ra2 => ?_
  obtain ⟨x, y, s, e1, e2, e3, e4, e5⟩ := fin2_some h2
  subst e4 e5
  have hx := view_rs sr2 (rs1.mono x2) e1
  have hy := view_ra sr2 ra2 e2
  have fin : ∀ w, RA g F2 as2 H2 s w → Q w H2 := fun w q => post F2 as2 w H2 ((x1.trans x1').trans x2) sr2 q
  unfold dIxT at e3
  split at e3
  · rename_i n z
    split at e3
    · rename_i tab ht
      cases vr_fn hx
      cases vr_str hy
      obtain ⟨d, e6, rfl⟩ := Option.map_eq_some_iff.mp (show (tab.lookup z).map S.val = some s from e3)
      obtain ⟨es, m, kd, all⟩ := TF.ok n tab ht
      obtain ⟨u, v, q1, q2, q3⟩ := (all z).1 d e6
      refine .inl ⟨_, z, v, rfl, rfl, ?_, fin v (q3 F2)⟩
      rw [← hg]
      exact ⟨es, m, u, kd.at_, kd.lit, q1, q2⟩
    · cases e3
  · refine .inr fun value slice pins st σ' v u I rv ru hs' => ?_
    refine ix_seq value slice pins st σ' H2 v1 v2 v u Q I rv ru ?_ hs'
    unfold dIx at e3
    split at e3
    · obtain ⟨d, e6, rfl⟩ := Option.map_eq_some_iff.mp e3
      obtain ⟨p, vs, rfl, h3, h4⟩ := vr_lst sr2 hx
      cases vr_int hy
      obtain ⟨w, h5, h6⟩ := atI_reps h4 e6
      exact .inl ⟨p, vs, _, w, rfl, rfl, SqL.of h3, h5, fin w h6⟩
    · obtain ⟨d, e6, rfl⟩ := Option.map_eq_some_iff.mp e3
      obtain ⟨p, vs, rfl, h3, h4⟩ := vr_tup sr2 hx
      cases vr_int hy
      obtain ⟨w, h5, h6⟩ := atI_reps h4 e6
      exact .inr (.inl ⟨p, vs, _, w, rfl, rfl, hg ▸ h3, h5, fin w h6⟩)
    · obtain ⟨d, e6, rfl⟩ := Option.map_eq_some_iff.mp e3
      obtain ⟨p, rfl, h3⟩ := vr_scr sr2 hx
      cases vr_int hy
      refine .inl ⟨p, _, _, .int d, rfl, rfl, hg ▸ h3, ?_, fin _ ra_int⟩
      unfold atI at e6 ⊢
      obtain ⟨j, h5, h6⟩ := Option.bind_eq_some_iff.mp e6
      rw [List.length_map, h5]
      show (List.map V.int _)[j]? = _
      rw [List.getElem?_map, h6]
      rfl
    · split at e3
      · rename_i hz
        obtain ⟨d, e6, rfl⟩ := Option.map_eq_some_iff.mp e3
        cases vr_str hx
        cases vr_int hy
        exact .inr (.inr ⟨_, _, d, rfl, rfl, hz, e6, fin _ ra_str⟩)
      · cases e3
    · cases e3
theorem ok_inT (hg : g.K = X.K) (hu : X.A.units + 65 < cLine) (TF : TbF g X.w tabs) : OpOk g X (compareOp .In) (dInT tabs) := by
  intro x y s F as μ H v u Q e sr hx hy k
  unfold dInT at e
  split at e
  · rename_i z n
    split at e
    · rename_i tab ht
      cases vr_str hx
      cases vr_fn hy
      cases (show some (S.val (.bl (tab.lookup z).isSome)) = some s from e)
      obtain ⟨es, m, kd, all⟩ := TF.ok n tab ht
      cases q : tab.lookup z with
      | none =>
        refine oc (op_in_kd (d := g.fad n) (es := es) (n := m) (hg ▸ kd)) ⟨z, none, rfl, rfl, by rw [← hg]; exact (all z).2 q, k F as _ H .refl sr ?_⟩
        rw [q]
        exact ra_bl
      | some d =>
        obtain ⟨u, v, q1, q2, q3⟩ := (all z).1 d q
        refine oc (op_in_kd (d := g.fad n) (es := es) (n := m) (hg ▸ kd)) ⟨z, some u, rfl, rfl, by rw [← hg]; exact q1, k F as _ H .refl sr ?_⟩
        rw [q]
        exact ra_bl
    · cases e
  · exact ok_in hg hu _ _ s F as μ H v u Q e sr hx hy k
theorem ok_notinT (hg : g.K = X.K) (hu : X.A.units + 65 < cLine) (TF : TbF g X.w tabs) : OpOk g X (compareOp .NotIn) (dNotInT tabs) := by
  intro x y s F as μ H v u Q e sr hx hy k
  unfold dNotInT at e
  split at e
  · rename_i z n
    split at e
    · rename_i tab ht
      cases vr_str hx
      cases vr_fn hy
      cases e
      obtain ⟨es, m, kd, all⟩ := TF.ok n tab ht
      cases q : tab.lookup z with
      | none =>
        refine oc (op_notIn_kd (d := g.fad n) (es := es) (n := m) (hg ▸ kd)) ⟨z, none, rfl, rfl, by rw [← hg]; exact (all z).2 q, k F as _ H .refl sr ?_⟩
        rw [q]
        exact ra_bl
      | some d =>
        obtain ⟨u, v, q1, q2, q3⟩ := (all z).1 d q
        refine oc (op_notIn_kd (d := g.fad n) (es := es) (n := m) (hg ▸ kd)) ⟨z, some u, rfl, rfl, by rw [← hg]; exact q1, k F as _ H .refl sr ?_⟩
        rw [q]
        exact ra_bl
    · cases e
  · exact ok_notin hg hu _ _ s F as μ H v u Q e sr hx hy k
end

/-! ### a def that a slot holds is called -/
def fnAt (ft : Nat → Option FnI) : Option (Option S) → Option FnI
  | some (some (.val (.fn i))) => ft i
  | _ => none
theorem fnAt_some {ft : Nat → Option FnI} {o : Option (Option S)} {fi : FnI} (h : fnAt ft o = some fi) : ∃ i, o = some (some (.val (.fn i))) ∧ ft i = some fi := by
  unfold fnAt at h
  split at h
  · exact ⟨_, rfl, h⟩
  · cases h
def callVK (n : Nat) (ks : List Str) (ms kms : List ME) (ρ : En) (μ : Sto) : Option FnI → Option R
  | some fi => andThen (mArgs ms ρ μ) fun ss μ1 => andThen (mArgs kms ρ μ1) fun ts μ2 => callF fi n ks ss ts μ2
  | none => none
def mCallV (i : Nat) (ft : Nat → Option FnI) (n : Nat) (ks : List Str) (ms kms : List ME) : ME := fun ρ μ => callVK n ks ms kms ρ μ (fnAt ft ρ[i]?)
structure FtC (gb : Bool) (g : G) (P : Program) (w : World) (mg : Str → Option Value) (base : Heap) (ft : Nat → Option FnI) (k : Nat) (sh : List (Nat × List Str)) : Prop where
  ok : ∀ i fi, ft i = some fi → FnC gb g P w mg base fi k (g.fad i) sh ∧ PySem.W.keepIn g.K (.ref (g.fad i)) = true
section
variable {g : G} {P : Program} {w : World} {mg : Str → Option Value} {base : Heap} {k : Nat} {N : List Str} {sc : Scope} {own gb gc : Bool} {X : Cx} {W : WX} {i : Nat} {x : Str} {frees globs : List Str}
theorem Ct.varP {cm : Bool} {pos : Pos} (c : Ct g P w mg base k N sc own cm gb X W) (h : varB N sc i x = true) : PE X (.Name x pos) (tVar i) := by
  unfold varB at h
  simp only [Bool.and_eq_true, Bool.not_eq_true'] at h
  obtain ⟨h1, h2, h3, h4⟩ := h
  refine pe_var (c.at h1) ?_ h3 h4
  unfold Vis
  rw [c.hsc]
  unfold visB at h2
  split at h2
  · rename_i e; exact .inl e
  · rename_i e; exact .inr (.inl e)
  · rename_i e; exact .inr (.inr e)
  · cases h2
theorem Ct.callV {ft : Nat → Option FnI} {n j : Nat} {ks : List Str} {sh : List (Nat × List Str)} {p pos : Pos} {es : List Expr} {kws : List Keyword} {ms kms : List ME} (c : Ct g P w mg base k N sc own true gb X W) (F : FtC gc g P w mg base ft j sh) (hgd : leB gc gb = true)
    (hj : Nat.ble j k = true) (hs : sh.contains (n, ks) = true) (hv : varB N sc i x = true) (hks : kwNames kws = some ks) (ha : SAs g X W es ms) (hkw : SK g X W kws (mArgs kms)) :
    SE g X W (.Call (.Name x p) es kws pos) (mCallV i ft n ks ms kms) := by
  refine ⟨fun F0 as ρ μ σ H Q r μ' h sr er post pins s I => ?_⟩
  unfold mCallV callVK at h
  cases q : fnAt ft ρ[i]? with
  | none => rw [q] at h; cases h
  | some fi =>
    rw [q] at h
    obtain ⟨m, q1, q2⟩ := fnAt_some q
    obtain ⟨v, e1, e2⟩ := er.at_ i _ q1
    have e3 : v = .ref (g.fad m) := by
      have z : Rep g F0 (.fn m) v := e2
      unfold Rep at z
      exact z
    subst e3
    obtain ⟨fc, kp⟩ := F.ok m fi q2
    refine wpAny_Call_Name_kw (thn ((c.varP (pos := p) hv).run pins s σ H (fun v H1 => v = .ref (g.fad m) ∧ H1 = H) I ⟨_, e1, rfl, rfl⟩) fun u s1 ⟨v1, H1, I1, r1, z⟩ => ?_)
    obtain ⟨rfl, rfl⟩ := z
    cases (show u = Value.ref (g.fad m) from r1)
    refine callW (first := []) (f := fun ss ts μ2 => callF fi n ks ss ts μ2) I1 (by rw [c.hK]; exact kp) hks ha hkw h sr er (fun x e => by subst e; exact post) fun ss ts μ2 F2 as2 vs zs H2 h2 x2 sr2 er2 rs2 rz2 st us ws I2 ru rz => ?_
    exact callF_run (c.fnK fc hs) ((c.room rfl).mono (Nat.le_of_ble_eq_true hj)) (fun e => c.gd (leB_ok hgd e)) c.tk h2 sr2 rs2 rz2 (PostE.ext x2 post) st us ws I2 ru rz
end

/-! ### the head's look at tables -/
theorem keys_find {P : Params} {z : Str} : ∀ {l : List DictEntry} {ks : List Str}, l.map He.keyOf = He.keysIn P ks → ¬ z ∈ ks → l.find? (·.key.isStr z) = none
  | [], _, _, _ => rfl
  | e :: r, [], h, _ => by cases h
  | e :: r, k :: ks, h, hz => by
    have h1 : He.keyOf e :: r.map He.keyOf = some (k, PyData.keyHash P k) :: He.keysIn P ks := h
    injection h1 with h2 h3
    have ne : e.key.isStr z = false := by
      unfold He.keyOf at h2
      split at h2
      · rename_i x t q
        obtain ⟨h5, _⟩ := Prod.mk.inj (Option.some.inj h2)
        rw [q]
        subst h5
        show Value.isStr (.str x t) z = false
        rw [PySem.W.isStr_of]
        show (x == z) = false
        exact beq_eq_false_iff_ne.mpr fun c => hz (by rw [← c]; exact List.mem_cons_self)
      · cases h2
    rw [List.find?_cons, ne]
    exact keys_find h3 fun c => hz (List.mem_cons_of_mem _ c)
theorem keys_ref {P : Params} : ∀ {l : List DictEntry} {ks : List Str}, l.map He.keyOf = He.keysIn P ks → l.any (·.refKey) = false
  | [], _, _ => rfl
  | e :: r, [], h => by cases h
  | e :: r, k :: ks, h => by
    have h1 : He.keyOf e :: r.map He.keyOf = some (k, PyData.keyHash P k) :: He.keysIn P ks := h
    injection h1 with h2 h3
    have ne : e.refKey = false := by
      unfold He.keyOf at h2
      split at h2
      · rename_i x t q
        unfold DictEntry.refKey
        rw [q]
      · cases h2
    rw [List.any_cons, ne, keys_ref h3]
    rfl
/-- what the texts of a law stand on -/
structure TbX (g : G) (mg : Str → Option Value) (w : World) (frees globs : List Str) (cis : List (Str × Int)) (css : List (Str × Str)) (tabs : Nat → Option Tab) (fns : List Str) : Prop extends Tb g mg frees globs where
  tf : TbF g w tabs
  gi : ∀ x i, cis.lookup x = some i → ∃ t, mg x = some (.int i t)
  gs : ∀ x z, css.lookup x = some z → ∃ t, mg x = some (.str z t)
  gt : ∀ i tab, tabs i = some tab → mg (fns.getD i "") = some (.ref (g.fad i))
/-- a table by its name -/
theorem Ct.tbName {g : G} {P : Program} {w : World} {mg : Str → Option Value} {base : Heap} {k : Nat} {N : List Str} {sc : Scope} {own cm gb : Bool} {X : Cx} {W : WX} {frees globs : List Str} {cis : List (Str × Int)} {css : List (Str × Str)} {tabs : Nat → Option Tab} {fns : List Str} {x : Str} {n : Nat} {tab : Tab} {p : Pos} (c : Ct g P w mg base k N sc own cm gb X W) (T : TbX g mg w frees globs cis css tabs fns) (hg : glB sc x = true) (ht : tabs n = some tab) (hx : fns.getD n "" = x) : SE g X W (.Name x p) (mK (.fn n)) :=
  se_k (v := .ref (g.fad n)) (pe_glob (c.gl hg).1 (by rw [c.hmg, ← hx]; exact T.gt n tab ht) rfl (c.gl hg).2.1) fun F => by unfold Rep; rfl
/-- a table's value as the head has it -/
def valB (fns : List Str) (K : PySem.W.Frag) : D → Option (Option Value) → Bool
  | .fn n, some (some (.ref a)) => a == He.ga K (fns.getD n "")
  | .int i, some (some (.int j _)) => i == j
  | .str s, some (some (.str z _)) => s == z
  | _, _ => false
theorem valB_ok {cls fns : List Str} {fls : List (List Str)} {K : PySem.W.Frag} {d : D} {o : Option (Option Value)} (h : valB fns K d o = true) : ∃ u v, o = some (some u) ∧ RelV v u ∧ ∀ F, Rep (gOf cls fls K fns) F d v := by
  unfold valB at h
  split at h
  · rename_i n a
    rw [beq_iff_eq.mp h]
    exact ⟨_, .ref _, rfl, rfl, fun F => by unfold Rep; rfl⟩
  · rename_i i j t
    rw [beq_iff_eq.mp h]
    exact ⟨_, .int _, rfl, ⟨t, rfl⟩, fun F => by unfold Rep; rfl⟩
  · rename_i s z t
    rw [beq_iff_eq.mp h]
    exact ⟨_, .str _, rfl, ⟨t, rfl⟩, fun F => by unfold Rep; rfl⟩
  · cases h
/-- the tables by their defs' numbers -/
def tabB (fns : List Str) (tabs : List (Nat × Tab)) (K : PySem.W.Frag) : Bool := tabs.all fun q => He.Fa.ok K (.glo (fns.getD q.1 "")) && q.2.all fun e => valB fns K e.2 (PySem.W.nsIn K (He.ga K (fns.getD q.1 "")) e.1)
def tabsOf (tabs : List (Nat × Tab)) (n : Nat) : Option Tab := tabs.lookup n
def htabs (fns : List Str) (tabs : List (Nat × Tab)) : List He.Tab := tabs.map fun q => (fun K => He.ga K (fns.getD q.1 ""), q.2.map (·.1))
abbrev AlY : Type := He.AlD × List (Option (List (Option (Str × Int))))
def obsY (chk : PySem.W.Frag → Bool) (fa : List He.Fa) (fn : List He.DefD) (ts : List He.Tab) (K : PySem.W.Frag) : AlY := (obsZ chk fa fn K, ts.map fun t => He.dicW K (t.1 K))
def valY (fn : List He.DefD) (ts : List He.Tab) (w : World) : AlY := (He.valD fn, ts.map fun t => some (He.keysIn w.params t.2))
def SaysY (chk : PySem.W.Frag → Bool) (fa : List He.Fa) (fn : List He.DefD) (ts : List He.Tab) (w : World) (K : PySem.W.Frag) : Prop := obsY chk fa fn ts K = valY fn ts w
def obsYG (n : Nat) (chk : PySem.W.Frag → Bool) (fa : List He.Fa) (fn : List He.DefD) (ts : List He.Tab) (g : Addr → Option Obj) : AlY := obsY chk fa fn ts (He.frG g (He.asD g n))
def hookY (n : Nat) (chk : PySem.W.Frag → Bool) (fa : List He.Fa) (fn : List He.DefD) (ts : List He.Tab) : PySem.W.Hook where
  α := AlY
  obs := fun s => obsYG n chk fa fn ts s.heap.get?
  val := fun w => valY fn ts w
  says := fun w h => ∃ K : PySem.W.Frag, K.In h ∧ SaysY chk fa fn ts w K
  of := fun _ _ e => ⟨_, He.frG_in, e⟩
  keeps := fun _ _ _ ⟨K, hK, c⟩ k => ⟨K, PySem.W.Frag.In.keeps hK k, c⟩
theorem obsYG_eq {n : Nat} {chk : PySem.W.Frag → Bool} {fa : List He.Fa} {fn : List He.DefD} {ts : List He.Tab} {g : Addr → Option Obj} {s : Shared} (h : ∀ a, g a = s.heap.get? a) : obsYG n chk fa fn ts g = (hookY n chk fa fn ts).obs s := by
  have e : g = s.heap.get? := funext h
  rw [e] <;> rfl
section
variable {chk : PySem.W.Frag → Bool} {fa : List He.Fa} {fn : List He.DefD} {ts : List He.Tab} {w : World} {K : PySem.W.Frag}
theorem SaysY.z (S : SaysY chk fa fn ts w K) : SaysZ chk fa fn K := congrArg (fun z : AlY => z.1) S
theorem SaysY.tab (S : SaysY chk fa fn ts w K) {t : He.Tab} (h : t ∈ ts) : He.dicW K (t.1 K) = some (He.keysIn w.params t.2) := by
  have e : ts.map (fun t => He.dicW K (t.1 K)) = ts.map fun t => some (He.keysIn w.params t.2) := congrArg (fun z : AlY => z.2) S
  exact (List.map_inj_left.mp e) t h
end
theorem dicW_keys {K : PySem.W.Frag} {w : World} {a : Addr} {ks : List Str} {z : Str} (h : He.dicW K a = some (He.keysIn w.params ks)) (hz : ¬ z ∈ ks) : PySem.W.nsIn K a z = some none := by
  unfold He.dicW at h
  cases q : K.lookup a with
  | none => rw [q] at h; cases h
  | some o =>
    obtain ⟨oc, od, dt, osl⟩ := o
    rw [q] at h
    cases oc with
    | type c =>
      cases od with
      | none =>
        cases dt with
        | dict es n =>
          have h1 : (match decide (c = "dict") && (osl.isEmpty && !(a == sysModules)) with
            | true => some (es.toList.map He.keyOf)
            | false => none) = some (He.keysIn w.params ks) := h
          split at h1
          · have e := Option.some.inj h1
            unfold PySem.W.nsIn
            rw [q]
            show (match es.toList.find? (·.key.isStr z) with
              | some e => some (some e.val)
              | none => if es.toList.any (·.refKey) = true then none else some none) = some none
            rw [keys_find e hz, keys_ref e]
            rfl
          · cases h1
        | _ => cases h
      | some b => cases dt <;> cases h
    | _ => cases od <;> cases dt <;> cases h
theorem lookup_mem {α β : Type} [BEq α] [LawfulBEq α] {x : α} {y : β} : ∀ {l : List (α × β)}, l.lookup x = some y → (x, y) ∈ l
  | [], h => by cases h
  | (a, b) :: l, h => by
    cases e : (x == a) with
    | true =>
      simp only [List.lookup, e] at h
      cases h
      rw [beq_iff_eq.mp e]
      exact List.mem_cons_self
    | false =>
      simp only [List.lookup, e] at h
      exact List.mem_cons_of_mem _ (lookup_mem h)
theorem lookup_none {α β : Type} [BEq α] [LawfulBEq α] {x : α} : ∀ {l : List (α × β)}, l.lookup x = none → ¬ x ∈ l.map (·.1)
  | [], _ => by simp
  | (a, b) :: l, h => by
    cases e : (x == a) with
    | true => simp only [List.lookup, e] at h; cases h
    | false =>
      simp only [List.lookup, e] at h
      intro hm
      rcases List.mem_cons.mp hm with z | z
      · rw [z] at e
        simp at e
      · exact lookup_none h z
theorem tbf_of {cls fns : List Str} {fls : List (List Str)} {tabs : List (Nat × Tab)} {chk : PySem.W.Frag → Bool} {fa : List He.Fa} {fn : List He.DefD} {w : World} {K : PySem.W.Frag} (S : SaysY chk fa fn (htabs fns tabs) w K) (h : tabB fns tabs K = true) : TbF (gOf cls fls K fns) w (tabsOf tabs) := by
  refine ⟨fun i tab ht => ?_, fun i tab ht => ?_⟩
  case refine_2 =>
    have hm := lookup_mem (show tabs.lookup i = some tab from ht)
    have hd := S.tab (t := (fun K => He.ga K (fns.getD i ""), tab.map (·.1))) (List.mem_map.mpr ⟨(i, tab), hm, rfl⟩)
    exact hd
  have hm := lookup_mem (show tabs.lookup i = some tab from ht)
  have hd := S.tab (t := (fun K => He.ga K (fns.getD i ""), tab.map (·.1))) (List.mem_map.mpr ⟨(i, tab), hm, rfl⟩)
  obtain ⟨es, n, kd⟩ := He.dicW_ok (w := w) hd
  refine ⟨es, n, kd, fun z => ⟨fun d hl => ?_, fun hl => dicW_keys (w := w) hd (lookup_none hl)⟩⟩
  have h2 := List.all_eq_true.mp (He.ba (List.all_eq_true.mp h (i, tab) hm)).2 (z, d) (lookup_mem hl)
  exact valB_ok h2
end Sz
namespace Sz
open PySem PySem.Spec PyProof.Rows L2
theorem FnC.gd {a b : Bool} {g : G} {P : Program} {w : World} {mg : Str → Option Value} {base : Heap} {k : Nat} {fi : FnI} {f : Addr} {sh : List (Nat × List Str)} (F : FnC a g P w mg base fi k f sh) (h : leB a b = true) : FnC b g P w mg base fi k f sh := by
  obtain ⟨fd, dvs, h1, h2, h3⟩ := F.ok
  exact ⟨fd, dvs, h1.gd h, h2, h3⟩
/-- what stands behind the head -/
theorem tbx_of {cls fns : List Str} {fls : List (List Str)} {tabs : List (Nat × Tab)} {chk : PySem.W.Frag → Bool} {frees globs : List Str} {cis : List (Str × Int)} {css : List (Str × Str)} {rest0 rest : List He.Fa} {fn : List He.DefD} {w : World} {K : PySem.W.Frag} {h : Heap} {mg : Str → Option Value}
    (e : rest = rest0 ++ (cis.map (fun p => He.Fa.int p.1 p.2) ++ css.map fun p => He.Fa.str p.1 p.2)) (KX : K.In h) (Gm : h.Ns mainGlobals mg) (S : SaysY chk (faOf frees globs rest) fn (htabs fns tabs) w K) (ht : tabB fns tabs K = true) :
    TbX (gOf cls fls K fns) mg w frees globs cis css (tabsOf tabs) fns := by
  refine ⟨tb_of rfl KX Gm S.z.says, tbf_of S ht, fun x i hx => ?_, fun x z hx => ?_, fun i tab hi => He.glo_ok KX Gm (He.ba (List.all_eq_true.mp ht (i, tab) (lookup_mem (show tabs.lookup i = some tab from hi)))).1⟩
  · refine He.int_ok KX Gm (says_all S.z.says (f := .int x i) ?_)
    rw [e]
    exact List.mem_append_right _ (List.mem_append_right _ (List.mem_append_right _ (List.mem_append_right _ (List.mem_append_left _ (List.mem_map.mpr ⟨(x, i), lookup_mem hx, rfl⟩)))))
  · refine He.str_ok KX Gm (says_all S.z.says (f := .str x z) ?_)
    rw [e]
    exact List.mem_append_right _ (List.mem_append_right _ (List.mem_append_right _ (List.mem_append_right _ (List.mem_append_right _ (List.mem_map.mpr ⟨(x, z), lookup_mem hx, rfl⟩)))))
end Sz
namespace Sz
open PySem PySem.Spec PyProof.Rows L2
/-- a new list becomes its owner's -/
def mOwnE (m : ME) : ME := fun ρ μ => andThen (m ρ μ) fun s μ1 => some (.ok (own true s μ1).1, (own true s μ1).2)
theorem se_own {g : G} {X : Cx} {W : WX} {e : Expr} {m : ME} (he : SE g X W e m) : SE g X W e (mOwnE m) := by
  refine ⟨fun F as ρ μ σ H Q r μ' h sr er post => ?_⟩
  refine he.then_ (show andThen _ _ = some (r, μ') from h) sr er (fun x e => by subst e; exact post) fun s1 μ1 F1 as1 v1 H1 h1 x1 sr1 er1 ra1 => ?_
  obtain ⟨F2, as2, x2, sr2, rs2⟩ := own_ok true sr1 ra1
  cases h1
  exact post F2 as2 v1 H1 (x1.trans x2) sr2 rs2.ra
end Sz

set_option Elab.async false
set_option linter.all false
set_option maxRecDepth 100000
set_option maxHeartbeats 4000000
/-! Sz P: reckoning with codes. -/
namespace Sz
open PySem PySem.Spec L2

/-! ### steps -/
def slotM : Option (Option S) → Sto → Option R
  | some (some s), μ => some (.ok s, μ)
  | _, _ => none
theorem slotM_some {s : S} {μ : Sto} : slotM (some (some s)) μ = some (.ok s, μ) := Eq.trans rfl rfl
theorem mVar_ap {i : Nat} {ρ : En} {μ : Sto} : mVar i ρ μ = slotM ρ[i]? μ := by
  unfold mVar slotM
  rcases ρ[i]? with _ | _ | s <;> rfl
theorem mK_ap {d : D} {ρ : En} {μ : Sto} : mK d ρ μ = some (.ok (.val d), μ) := Eq.trans rfl rfl
theorem andThen_ok {α β : Type} {s : α} {μ : Sto} {f : α → Sto → Option (Except Ex β × Sto)} : andThen (some (.ok s, μ)) f = f s μ := Eq.trans rfl rfl
theorem andThen_err {α β : Type} {x : Ex} {μ : Sto} {f : α → Sto → Option (Except Ex β × Sto)} : andThen (some (.error x, μ)) f = some (.error x, μ) := Eq.trans rfl rfl
theorem andThen_if {α β : Type} {c : Prop} [Decidable c] {x y : Option (Except Ex α × Sto)} {f : α → Sto → Option (Except Ex β × Sto)} : andThen (if c then x else y) f = if c then andThen x f else andThen y f := by split <;> rfl
theorem exThen_ok {α : Type} {s : α} {μ : Sto} {ρ : En} {f : α → Sto → Option (Fl × En × Sto)} : exThen (some (.ok s, μ)) ρ f = f s μ := Eq.trans rfl rfl
theorem exThen_err {α : Type} {x : Ex} {μ : Sto} {ρ : En} {f : α → Sto → Option (Fl × En × Sto)} : exThen (some (.error x, μ)) ρ f = some (.ex x, ρ, μ) := Eq.trans rfl rfl
theorem exThen_if {α : Type} {c : Prop} [Decidable c] {x y : Option (Except Ex α × Sto)} {ρ : En} {f : α → Sto → Option (Fl × En × Sto)} : exThen (if c then x else y) ρ f = if c then exThen x ρ f else exThen y ρ f := by split <;> rfl
theorem vw_val {μ : Sto} {d : D} : vw μ (.val d) = some d := Eq.trans rfl rfl
theorem vw_fr {μ : Sto} {ds : List D} : vw μ (.fr ds) = some (.lst ds) := Eq.trans rfl rfl
def cellV : Option C → Option D
  | some (.lst ds) => some (.lst ds)
  | some (.frz d) => some d
  | _ => none
theorem vw_cell {μ : Sto} {k : Nat} : vw μ (.cell k) = cellV μ[k]? := by
  unfold vw cellV
  dsimp only
  all_goals (rcases μ[k]? with _ | c <;> first | rfl | (cases c <;> rfl))
theorem cellV_lst {ds : List D} : cellV (some (.lst ds)) = some (.lst ds) := Eq.trans rfl rfl
theorem cellV_frz {d : D} : cellV (some (.frz d)) = some d := Eq.trans rfl rfl
theorem rt_val {d : D} : rt (.val d) = .val d := Eq.trans rfl rfl
theorem rt_fr {ds : List D} : rt (.fr ds) = .val (.lst ds) := Eq.trans rfl rfl
theorem rt_cell {k : Nat} : rt (.cell k) = .cell k := Eq.trans rfl rfl
def fin2K (μ : Sto) : Option S → Option R
  | some s => some (.ok s, μ)
  | none => none
theorem fin2K_some {μ : Sto} {s : S} : fin2K μ (some s) = some (.ok s, μ) := Eq.trans rfl rfl
def opK (op : D → D → Option S) : Option D → Option D → Option S
  | some x, some y => op x y
  | _, _ => none
theorem opK_some {op : D → D → Option S} {x y : D} : opK op (some x) (some y) = op x y := Eq.trans rfl rfl
theorem fin2_ap {op : D → D → Option S} {μ : Sto} {s t : S} : fin2 op μ s t = fin2K μ (opK op (vw μ s) (vw μ t)) := by
  unfold fin2 opK fin2K
  rcases vw μ s with _ | x <;> rcases vw μ t with _ | y <;> first | rfl | (dsimp only; cases op x y <;> rfl)
def op1K (op : D → Option S) : Option D → Option S
  | some x => op x
  | _ => none
theorem op1K_some {op : D → Option S} {x : D} : op1K op (some x) = op x := Eq.trans rfl rfl
theorem fin1_ap {op : D → Option S} {μ : Sto} {s : S} : fin1 op μ s = fin2K μ (op1K op (vw μ s)) := by
  unfold fin1 op1K fin2K
  rcases vw μ s with _ | x
  · rfl
  · dsimp only
    all_goals (cases op x <;> rfl)
theorem mOp2_ap {op : D → D → Option S} {a b : ME} {ρ : En} {μ : Sto} : mOp2 op a b ρ μ = andThen (a ρ μ) fun s1 μ1 => andThen (b ρ μ1) fun s2 μ2 => fin2 op μ2 (rt s1) s2 := Eq.trans rfl rfl
theorem mOp1_ap {op : D → Option S} {a : ME} {ρ : En} {μ : Sto} : mOp1 op a ρ μ = andThen (a ρ μ) fun s1 μ1 => fin1 op μ1 s1 := Eq.trans rfl rfl
theorem add_ii {i j : Int} : dAdd (.int i) (.int j) = some (.val (.int (i + j))) := Eq.trans rfl rfl
theorem sub_ii {i j : Int} : dSub (.int i) (.int j) = some (.val (.int (i - j))) := Eq.trans rfl rfl
theorem neg_i {i : Int} : dNeg (.int i) = some (.val (.int (-i))) := Eq.trans rfl rfl
theorem not_b {b : Bool} : dNot (.bl b) = some (.val (.bl (!b))) := Eq.trans rfl rfl
theorem lt_ii {i j : Int} : dLt (.int i) (.int j) = some (.val (.bl (decide (i < j)))) := Eq.trans rfl rfl
theorem le_ii {i j : Int} : dLe (.int i) (.int j) = some (.val (.bl (decide (i ≤ j)))) := Eq.trans rfl rfl
theorem gt_ii {i j : Int} : dGt (.int i) (.int j) = some (.val (.bl (decide (j < i)))) := Eq.trans rfl rfl
theorem ge_ii {i j : Int} : dGe (.int i) (.int j) = some (.val (.bl (decide (j ≤ i)))) := Eq.trans rfl rfl
theorem eq_ii {i j : Int} : dEq (.int i) (.int j) = some (.val (.bl (decide (i = j)))) := by
  have : pyEq (.int i) (.int j) = some (decide (i = j)) := by
    show some (PyData.eqv (.int i) (.int j)) = _
    rfl
  unfold dEq
  simp only [this]
theorem ne_ii {i j : Int} : dNe (.int i) (.int j) = some (.val (.bl (!decide (i = j)))) := by
  have : pyEq (.int i) (.int j) = some (decide (i = j)) := by
    show some (PyData.eqv (.int i) (.int j)) = _
    rfl
  unfold dNe
  simp only [this]
/-- at most so many bits -/
def Bd (n : Nat) (i : Int) : Prop := i.natAbs < 2 ^ n
theorem Bd.mono {n m : Nat} {i : Int} (h : Bd n i) (e : n ≤ m) : Bd m i := Nat.lt_of_lt_of_le h (Nat.pow_le_pow_right (by decide) e)
theorem Bd.mul {n m : Nat} {i j : Int} (h : Bd n i) (g : Bd m j) : Bd (n + m) (i * j) := wide_lt h g
theorem Bd.add {n : Nat} {i j : Int} (h : Bd n i) (g : Bd n j) : Bd (n + 1) (i + j) := by
  unfold Bd at *
  rw [Nat.pow_succ]
  omega
theorem Bd.sub {n : Nat} {i j : Int} (h : Bd n i) (g : Bd n j) : Bd (n + 1) (i - j) := by
  unfold Bd at *
  rw [Nat.pow_succ]
  omega
theorem Bd.neg {n : Nat} {i : Int} (h : Bd n i) : Bd n (-i) := by
  unfold Bd at *
  omega
theorem Bd.bits {n : Nat} {i : Int} (h : Bd n i) : Builtin.Int.intBits i ≤ n := by
  unfold Builtin.Int.intBits
  by_cases e : i = 0
  · rw [if_pos (by rw [e]; rfl)]; exact Nat.zero_le _
  · rw [if_neg (by simpa using e)]
    have h0 : i.natAbs ≠ 0 := by omega
    exact (Nat.log2_lt h0).mpr h
theorem mulOk_bd {n m : Nat} {i j : Int} (h : Bd n i) (g : Bd m j) (e : n + m ≤ 134217728) : mulOk i j = true := by
  have h1 := h.bits
  have h2 := g.bits
  apply mulOk_of
  have eb : bitsLine = 134217728 := by decide
  unfold IntMulOk
  intro z
  rw [Bool.and_eq_true] at z
  have z2 := z.2
  unfold Builtin.Int.intTooBig at z2
  have z3 := of_decide_eq_true z2
  rw [eb] at z3
  omega
/-- one factor short -/
theorem mulOk_right {i j : Int} (g : Bd 64 j) : mulOk i j = true := by
  have h2 := g.bits
  apply mulOk_of
  unfold IntMulOk
  intro z
  rw [Bool.and_eq_true, Bool.and_eq_true] at z
  have := of_decide_eq_true z.1.2
  have e : shortFactorBits = 64 := Eq.trans rfl rfl
  omega
theorem mulOk_left {i j : Int} (g : Bd 64 i) : mulOk i j = true := by
  have h2 := g.bits
  apply mulOk_of
  unfold IntMulOk
  intro z
  rw [Bool.and_eq_true, Bool.and_eq_true] at z
  have := of_decide_eq_true z.1.1
  have e : shortFactorBits = 64 := Eq.trans rfl rfl
  omega
theorem mul_ii {i j : Int} (h : mulOk i j = true) : dMul (.int i) (.int j) = some (.val (.int (i * j))) := by
  unfold dMul
  dsimp only
  rw [if_pos h]
theorem mul_bd {i j : Int} (n m : Nat) (h : Bd n i) (g : Bd m j) (e : n + m ≤ 134217728 := by decide) : dMul (.int i) (.int j) = some (.val (.int (i * j))) := mul_ii (mulOk_bd h g e)
theorem fdiv_ii {i j : Int} (n : Nat) (h0 : j ≠ 0) (h : Bd n j) (hn : n ≤ 9000 := by decide) : dFdiv (.int i) (.int j) = some (.val (.int (i.fdiv j))) := by
  unfold dFdiv
  dsimp only
  have : j.natAbs ≠ 0 := by omega
  exact if_pos ⟨h0, Nat.lt_of_lt_of_le ((Nat.log2_lt this).mpr h) hn⟩
theorem mod_ii {i j : Int} (h0 : j ≠ 0) : dMod (.int i) (.int j) = some (.val (.int (i.fmod j))) := by
  unfold dMod
  dsimp only
  rw [if_pos h0]
theorem pow_ii {i j : Int} (n : Nat) (h : Bd n i) (h0 : 0 ≤ j) (e : n * j.toNat ≤ 2 ^ 27) : dPow (.int i) (.int j) = some (.val (.int (i ^ j.toNat))) := by
  unfold dPow
  dsimp only
  have h1 := h.bits
  have h2 : Builtin.Int.intBits i * j.toNat ≤ n * j.toNat := Nat.mul_le_mul_right _ h1
  have h3 : (Builtin.Int.intBits i : Int) * (j.toNat : Int) ≤ 2 ^ 27 := by exact_mod_cast Nat.le_trans h2 e
  rw [Int.toNat_of_nonneg h0] at h3
  exact if_pos ⟨h0, h3⟩
theorem ix_lst {ds : List D} {i : Int} : dIx (.lst ds) (.int i) = (atI ds i).map .val := Eq.trans rfl rfl
theorem ix_tup {ds : List D} {i : Int} : dIx (.tup ds) (.int i) = (atI ds i).map .val := Eq.trans rfl rfl
theorem ix_scr {ns : List Int} {i : Int} : dIx (.scr ns) (.int i) = (atI ns i).map fun n => .val (.int n) := Eq.trans rfl rfl
theorem omap_some {α β : Type} {f : α → β} {a : α} : (some a).map f = some (f a) := Eq.trans rfl rfl
theorem atI_mem {α : Type} {l : List α} {i : Int} (h0 : 0 ≤ i) (h1 : i < l.length) : ∃ x, atI l i = some x ∧ x ∈ l := by
  have h2 : i.toNat < l.length := by omega
  refine ⟨l[i.toNat], ?_, List.getElem_mem h2⟩
  unfold atI ixN
  rw [if_pos h0, if_pos h1]
  show l[i.toNat]? = _
  exact List.getElem?_eq_getElem h2
theorem atI0 {α : Type} {a : α} {l : List α} : atI (a :: l) 0 = some a := by
  unfold atI ixN
  rw [if_pos (by decide), if_pos (by simp only [List.length_cons]; omega)]
  rfl
theorem atI1 {α : Type} {a b : α} {l : List α} : atI (a :: b :: l) 1 = some b := by
  unfold atI ixN
  rw [if_pos (by decide), if_pos (by simp only [List.length_cons]; omega)]
  rfl
theorem atI2 {α : Type} {a b c : α} {l : List α} : atI (a :: b :: c :: l) 2 = some c := by
  unfold atI ixN
  rw [if_pos (by decide), if_pos (by simp only [List.length_cons]; omega)]
  rfl
theorem bl?_bl {b : Bool} : bl? (.val (.bl b)) = some b := Eq.trans rfl rfl
def tBlK (μ : Sto) : Option Bool → Option (Except Ex Bool × Sto)
  | some b => some (.ok b, μ)
  | none => none
theorem tBlK_some {μ : Sto} {b : Bool} : tBlK μ (some b) = some (.ok b, μ) := Eq.trans rfl rfl
theorem tBl_ap {a : ME} {ρ : En} {μ : Sto} : tBl a ρ μ = andThen (a ρ μ) fun s μ1 => tBlK μ1 (bl? s) := by
  unfold tBl
  congr
theorem tNotM_ap {a : MT} {ρ : En} {μ : Sto} : tNotM a ρ μ = andThen (a ρ μ) fun b μ1 => some (.ok (!b), μ1) := Eq.trans rfl rfl
theorem tAndM_ap {a b : MT} {ρ : En} {μ : Sto} : tAndM a b ρ μ = andThen (a ρ μ) fun c μ1 => if c = true then b ρ μ1 else some (.ok false, μ1) := Eq.trans rfl rfl
theorem tOrM_ap {a b : MT} {ρ : En} {μ : Sto} : tOrM a b ρ μ = andThen (a ρ μ) fun c μ1 => if c = true then some (.ok true, μ1) else b ρ μ1 := Eq.trans rfl rfl
theorem tTrue_ap {ρ : En} {μ : Sto} : tTrue ρ μ = some (.ok true, μ) := Eq.trans rfl rfl
theorem mIf_ap {t : MT} {a b : ME} {ρ : En} {μ : Sto} : mIf t a b ρ μ = andThen (t ρ μ) fun c μ1 => if c = true then a ρ μ1 else b ρ μ1 := Eq.trans rfl rfl
def andK (μ : Sto) (x : Option R) : Option Bool → Option R
  | some true => x
  | some false => some (.ok (.val (.bl false)), μ)
  | none => none
def orK (μ : Sto) (x : Option R) : Option Bool → Option R
  | some false => x
  | some true => some (.ok (.val (.bl true)), μ)
  | none => none
theorem mAnd_ap {a b : ME} {ρ : En} {μ : Sto} : mAnd a b ρ μ = andThen (a ρ μ) fun s μ1 => andK μ1 (b ρ μ1) (bl? s) := by
  unfold mAnd
  congr
theorem mOr_ap {a b : ME} {ρ : En} {μ : Sto} : mOr a b ρ μ = andThen (a ρ μ) fun s μ1 => orK μ1 (b ρ μ1) (bl? s) := by
  unfold mOr
  congr
theorem andK_some {μ : Sto} {x : Option R} {b : Bool} : andK μ x (some b) = if b = true then x else some (.ok (.val (.bl false)), μ) := by cases b <;> rfl
theorem orK_some {μ : Sto} {x : Option R} {b : Bool} : orK μ x (some b) = if b = true then some (.ok (.val (.bl true)), μ) else x := by cases b <;> rfl
theorem mArgs_nil {ρ : En} {μ : Sto} : mArgs [] ρ μ = some (.ok [], μ) := Eq.trans rfl rfl
theorem mArgs_cons {m : ME} {ms : List ME} {ρ : En} {μ : Sto} : mArgs (m :: ms) ρ μ = andThen (m ρ μ) fun s μ1 => andThen (mArgs ms ρ μ1) fun ss μ2 => some (.ok (rt s :: ss), μ2) := Eq.trans rfl rfl
theorem mOwns_nil {ρ : En} {μ : Sto} : mOwns [] ρ μ = some (.ok [], μ) := Eq.trans rfl rfl
theorem mOwns_cons {fl : Bool} {m : ME} {ms : List (Bool × ME)} {ρ : En} {μ : Sto} : mOwns ((fl, m) :: ms) ρ μ = andThen (m ρ μ) fun s μ1 => andThen (mOwns ms ρ (own fl s μ1).2) fun ss μ2 => some (.ok ((own fl s μ1).1 :: ss), μ2) := Eq.trans rfl rfl
theorem mList_ap {ms : List ME} {ρ : En} {μ : Sto} : mList ms ρ μ = andThen (mArgs ms ρ μ) finL := Eq.trans rfl rfl
theorem mTup_ap {ms : List ME} {ρ : En} {μ : Sto} : mTup ms ρ μ = andThen (mArgs ms ρ μ) finT := Eq.trans rfl rfl
theorem mCallB_ap {op : List D → Option S} {ms : List ME} {ρ : En} {μ : Sto} : mCallB op ms ρ μ = andThen (mArgs ms ρ μ) (finB op) := Eq.trans rfl rfl
/-- all are values -/
def vals? : List S → Option (List D)
  | [] => some []
  | .val d :: ss => (vals? ss).map (d :: ·)
  | _ => none
theorem vals_toDs {μ : Sto} : ∀ {ss : List S} {ds : List D}, vals? ss = some ds → toDs μ ss = some (ds, μ)
  | [], ds, h => by cases h; rfl
  | s :: ss, ds, h => by
    cases s with
    | val d =>
      unfold vals? at h
      obtain ⟨r, h1, rfl⟩ := Option.map_eq_some_iff.mp h
      unfold toDs
      show (match toDs μ ss with | none => none | some (ds, μ2) => some (d :: ds, μ2)) = _
      rw [vals_toDs h1]
    | cell k => cases h
    | fr x => cases h
    | pot _ _ _ => cases h
    | any => cases h
theorem finL_vals {ss : List S} {ds : List D} {μ : Sto} (h : vals? ss = some ds) (hl : ds.length ≤ 1000) : finL ss μ = some (.ok (.fr ds), μ) := by
  unfold finL
  rw [vals_toDs h]
  show (if ds.length ≤ sizeLine then _ else _) = _
  rw [if_pos (Nat.le_trans hl (by decide))]
theorem finT_vals {ss : List S} {ds : List D} {μ : Sto} (h : vals? ss = some ds) (hl : ds.length ≤ 1000) : finT ss μ = some (.ok (.val (.tup ds)), μ) := by
  unfold finT
  rw [vals_toDs h]
  show (if ds.length ≤ sizeLine then _ else _) = _
  rw [if_pos (Nat.le_trans hl (by decide))]
/-- displays of values (short ones) -/
theorem finL1 {x0 : D} {μ : Sto} : finL [.val x0] μ = some (.ok (.fr [x0]), μ) := finL_vals rfl (by simp)
theorem finL2 {x0 x1 : D} {μ : Sto} : finL [.val x0, .val x1] μ = some (.ok (.fr [x0, x1]), μ) := finL_vals rfl (by simp)
theorem finL3 {x0 x1 x2 : D} {μ : Sto} : finL [.val x0, .val x1, .val x2] μ = some (.ok (.fr [x0, x1, x2]), μ) := finL_vals rfl (by simp)
theorem finL4 {x0 x1 x2 x3 : D} {μ : Sto} : finL [.val x0, .val x1, .val x2, .val x3] μ = some (.ok (.fr [x0, x1, x2, x3]), μ) := finL_vals rfl (by simp)
theorem finL5 {x0 x1 x2 x3 x4 : D} {μ : Sto} : finL [.val x0, .val x1, .val x2, .val x3, .val x4] μ = some (.ok (.fr [x0, x1, x2, x3, x4]), μ) := finL_vals rfl (by simp)
theorem finL6 {x0 x1 x2 x3 x4 x5 : D} {μ : Sto} : finL [.val x0, .val x1, .val x2, .val x3, .val x4, .val x5] μ = some (.ok (.fr [x0, x1, x2, x3, x4, x5]), μ) := finL_vals rfl (by simp)
theorem finL7 {x0 x1 x2 x3 x4 x5 x6 : D} {μ : Sto} : finL [.val x0, .val x1, .val x2, .val x3, .val x4, .val x5, .val x6] μ = some (.ok (.fr [x0, x1, x2, x3, x4, x5, x6]), μ) := finL_vals rfl (by simp)
theorem finL8 {x0 x1 x2 x3 x4 x5 x6 x7 : D} {μ : Sto} : finL [.val x0, .val x1, .val x2, .val x3, .val x4, .val x5, .val x6, .val x7] μ = some (.ok (.fr [x0, x1, x2, x3, x4, x5, x6, x7]), μ) := finL_vals rfl (by simp)
theorem finL9 {x0 x1 x2 x3 x4 x5 x6 x7 x8 : D} {μ : Sto} : finL [.val x0, .val x1, .val x2, .val x3, .val x4, .val x5, .val x6, .val x7, .val x8] μ = some (.ok (.fr [x0, x1, x2, x3, x4, x5, x6, x7, x8]), μ) := finL_vals rfl (by simp)
theorem finL10 {x0 x1 x2 x3 x4 x5 x6 x7 x8 x9 : D} {μ : Sto} : finL [.val x0, .val x1, .val x2, .val x3, .val x4, .val x5, .val x6, .val x7, .val x8, .val x9] μ = some (.ok (.fr [x0, x1, x2, x3, x4, x5, x6, x7, x8, x9]), μ) := finL_vals rfl (by simp)
theorem finL11 {x0 x1 x2 x3 x4 x5 x6 x7 x8 x9 x10 : D} {μ : Sto} : finL [.val x0, .val x1, .val x2, .val x3, .val x4, .val x5, .val x6, .val x7, .val x8, .val x9, .val x10] μ = some (.ok (.fr [x0, x1, x2, x3, x4, x5, x6, x7, x8, x9, x10]), μ) := finL_vals rfl (by simp)
theorem finL12 {x0 x1 x2 x3 x4 x5 x6 x7 x8 x9 x10 x11 : D} {μ : Sto} : finL [.val x0, .val x1, .val x2, .val x3, .val x4, .val x5, .val x6, .val x7, .val x8, .val x9, .val x10, .val x11] μ = some (.ok (.fr [x0, x1, x2, x3, x4, x5, x6, x7, x8, x9, x10, x11]), μ) := finL_vals rfl (by simp)
theorem finL13 {x0 x1 x2 x3 x4 x5 x6 x7 x8 x9 x10 x11 x12 : D} {μ : Sto} : finL [.val x0, .val x1, .val x2, .val x3, .val x4, .val x5, .val x6, .val x7, .val x8, .val x9, .val x10, .val x11, .val x12] μ = some (.ok (.fr [x0, x1, x2, x3, x4, x5, x6, x7, x8, x9, x10, x11, x12]), μ) := finL_vals rfl (by simp)
theorem finL14 {x0 x1 x2 x3 x4 x5 x6 x7 x8 x9 x10 x11 x12 x13 : D} {μ : Sto} : finL [.val x0, .val x1, .val x2, .val x3, .val x4, .val x5, .val x6, .val x7, .val x8, .val x9, .val x10, .val x11, .val x12, .val x13] μ = some (.ok (.fr [x0, x1, x2, x3, x4, x5, x6, x7, x8, x9, x10, x11, x12, x13]), μ) := finL_vals rfl (by simp)
theorem finL15 {x0 x1 x2 x3 x4 x5 x6 x7 x8 x9 x10 x11 x12 x13 x14 : D} {μ : Sto} : finL [.val x0, .val x1, .val x2, .val x3, .val x4, .val x5, .val x6, .val x7, .val x8, .val x9, .val x10, .val x11, .val x12, .val x13, .val x14] μ = some (.ok (.fr [x0, x1, x2, x3, x4, x5, x6, x7, x8, x9, x10, x11, x12, x13, x14]), μ) := finL_vals rfl (by simp)
theorem finL16 {x0 x1 x2 x3 x4 x5 x6 x7 x8 x9 x10 x11 x12 x13 x14 x15 : D} {μ : Sto} : finL [.val x0, .val x1, .val x2, .val x3, .val x4, .val x5, .val x6, .val x7, .val x8, .val x9, .val x10, .val x11, .val x12, .val x13, .val x14, .val x15] μ = some (.ok (.fr [x0, x1, x2, x3, x4, x5, x6, x7, x8, x9, x10, x11, x12, x13, x14, x15]), μ) := finL_vals rfl (by simp)
theorem finT1 {x0 : D} {μ : Sto} : finT [.val x0] μ = some (.ok (.val (.tup [x0])), μ) := finT_vals rfl (by simp)
theorem finT2 {x0 x1 : D} {μ : Sto} : finT [.val x0, .val x1] μ = some (.ok (.val (.tup [x0, x1])), μ) := finT_vals rfl (by simp)
theorem finT3 {x0 x1 x2 : D} {μ : Sto} : finT [.val x0, .val x1, .val x2] μ = some (.ok (.val (.tup [x0, x1, x2])), μ) := finT_vals rfl (by simp)
theorem finT4 {x0 x1 x2 x3 : D} {μ : Sto} : finT [.val x0, .val x1, .val x2, .val x3] μ = some (.ok (.val (.tup [x0, x1, x2, x3])), μ) := finT_vals rfl (by simp)
theorem finT5 {x0 x1 x2 x3 x4 : D} {μ : Sto} : finT [.val x0, .val x1, .val x2, .val x3, .val x4] μ = some (.ok (.val (.tup [x0, x1, x2, x3, x4])), μ) := finT_vals rfl (by simp)
theorem finT6 {x0 x1 x2 x3 x4 x5 : D} {μ : Sto} : finT [.val x0, .val x1, .val x2, .val x3, .val x4, .val x5] μ = some (.ok (.val (.tup [x0, x1, x2, x3, x4, x5])), μ) := finT_vals rfl (by simp)
theorem finT7 {x0 x1 x2 x3 x4 x5 x6 : D} {μ : Sto} : finT [.val x0, .val x1, .val x2, .val x3, .val x4, .val x5, .val x6] μ = some (.ok (.val (.tup [x0, x1, x2, x3, x4, x5, x6])), μ) := finT_vals rfl (by simp)
theorem finT8 {x0 x1 x2 x3 x4 x5 x6 x7 : D} {μ : Sto} : finT [.val x0, .val x1, .val x2, .val x3, .val x4, .val x5, .val x6, .val x7] μ = some (.ok (.val (.tup [x0, x1, x2, x3, x4, x5, x6, x7])), μ) := finT_vals rfl (by simp)
def vwK : Option D → Option (List D) → Option (List D)
  | some d, some ds => some (d :: ds)
  | _, _ => none
theorem vwK_some {d : D} {ds : List D} : vwK (some d) (some ds) = some (d :: ds) := Eq.trans rfl rfl
theorem vws_nil {μ : Sto} : vws μ [] = some [] := Eq.trans rfl rfl
theorem vws_cons {μ : Sto} {s : S} {ss : List S} : vws μ (s :: ss) = vwK (vw μ s) (vws μ ss) := by
  show (match vw μ s, vws μ ss with
    | some d, some ds => some (d :: ds)
    | _, _ => none) = _
  unfold vwK
  rcases vw μ s with _ | d
  · rfl
  · rcases vws μ ss with _ | ds <;> rfl
def opsK (op : List D → Option S) : Option (List D) → Option S
  | some xs => op xs
  | none => none
theorem opsK_some {op : List D → Option S} {xs : List D} : opsK op (some xs) = op xs := Eq.trans rfl rfl
theorem finB_ap {op : List D → Option S} {ss : List S} {μ : Sto} : finB op ss μ = fin2K μ (opsK op (vws μ ss)) := by
  unfold finB opsK fin2K
  rcases vws μ ss with _ | xs
  · rfl
  · dsimp only
    all_goals (cases op xs <;> rfl)
theorem len_scr {ns : List Int} : bLen [.scr ns] = some (.val (.int ns.length)) := Eq.trans rfl rfl
theorem len_lst {ns : List D} : bLen [.lst ns] = some (.val (.int ns.length)) := Eq.trans rfl rfl
theorem len_tup {ns : List D} : bLen [.tup ns] = some (.val (.int ns.length)) := Eq.trans rfl rfl
theorem abs_i {i : Int} : bAbs [.int i] = some (.val (.int (i.natAbs : Int))) := by
  show some (S.val (.int (if i < 0 then -i else i))) = _
  congr 3
  split <;> omega
theorem min_ii {i j : Int} : bMin [.int i, .int j] = some (.val (.int (if j < i then j else i))) := Eq.trans rfl rfl
theorem max_ii {i j : Int} : bMax [.int i, .int j] = some (.val (.int (if j > i then j else i))) := Eq.trans rfl rfl
theorem int_b {b : Bool} : bInt [.bl b] = some (.val (.int (if b = true then 1 else 0))) := Eq.trans rfl rfl
theorem int_i {i : Int} : bInt [.int i] = some (.val (.int i)) := Eq.trans rfl rfl
/-! statements -/
def seqK : Option (Fl × En × Sto) → MS → Option (Fl × En × Sto)
  | some (.nx, ρ, μ), b => b ρ μ
  | r, _ => r
theorem seqK_nx {ρ : En} {μ : Sto} {b : MS} : seqK (some (.nx, ρ, μ)) b = b ρ μ := Eq.trans rfl rfl
theorem seqK_rt {s : S} {ρ : En} {μ : Sto} {b : MS} : seqK (some (.rt s, ρ, μ)) b = some (.rt s, ρ, μ) := Eq.trans rfl rfl
theorem seqK_ex {x : Ex} {ρ : En} {μ : Sto} {b : MS} : seqK (some (.ex x, ρ, μ)) b = some (.ex x, ρ, μ) := Eq.trans rfl rfl
theorem seqK_bk {ρ : En} {μ : Sto} {b : MS} : seqK (some (.bk, ρ, μ)) b = some (.bk, ρ, μ) := Eq.trans rfl rfl
theorem seqK_ct {ρ : En} {μ : Sto} {b : MS} : seqK (some (.ct, ρ, μ)) b = some (.ct, ρ, μ) := Eq.trans rfl rfl
theorem seqK_if {c : Prop} [Decidable c] {x y : Option (Fl × En × Sto)} {b : MS} : seqK (if c then x else y) b = if c then seqK x b else seqK y b := by split <;> rfl
theorem sSeq_ap {a b : MS} {ρ : En} {μ : Sto} : sSeq a b ρ μ = seqK (a ρ μ) b := by
  unfold sSeq seqK
  rcases a ρ μ with _ | ⟨fl, ρ1, μ1⟩
  · rfl
  · cases fl <;> rfl
theorem sNil_ap {ρ : En} {μ : Sto} : sNil ρ μ = some (.nx, ρ, μ) := Eq.trans rfl rfl
theorem sPass_ap {ρ : En} {μ : Sto} : sPass ρ μ = some (.nx, ρ, μ) := Eq.trans rfl rfl
theorem sBreak_ap {ρ : En} {μ : Sto} : sBreak ρ μ = some (.bk, ρ, μ) := Eq.trans rfl rfl
theorem sCont_ap {ρ : En} {μ : Sto} : sCont ρ μ = some (.ct, ρ, μ) := Eq.trans rfl rfl
theorem sRet_ap {m : ME} {ρ : En} {μ : Sto} : sRet m ρ μ = exThen (m ρ μ) ρ fun s μ1 => some (.rt s, ρ, μ1) := Eq.trans rfl rfl
theorem sRetN_ap {ρ : En} {μ : Sto} : sRetN ρ μ = some (.rt (.val .non), ρ, μ) := Eq.trans rfl rfl
theorem sIf_ap {t : MT} {a b : MS} {ρ : En} {μ : Sto} : sIf t a b ρ μ = exThen (t ρ μ) ρ fun c μ1 => if c = true then a ρ μ1 else b ρ μ1 := Eq.trans rfl rfl
theorem sExpr_ap {m : ME} {ρ : En} {μ : Sto} : sExpr m ρ μ = exThen (m ρ μ) ρ fun _ μ1 => some (.nx, ρ, μ1) := Eq.trans rfl rfl
def nxK : Option (En × Sto) → Option (Fl × En × Sto)
  | some (ρ, μ) => some (.nx, ρ, μ)
  | none => none
theorem nxK_some {ρ : En} {μ : Sto} : nxK (some (ρ, μ)) = some (.nx, ρ, μ) := Eq.trans rfl rfl
theorem sAsg_ap {t : MG} {m : ME} {ρ : En} {μ : Sto} : sAsg t m ρ μ = exThen (m ρ μ) ρ fun s μ1 => nxK (t s ρ μ1) := by
  unfold sAsg
  congr
theorem gNm_ap {i : Nat} {fl : Bool} {s : S} {ρ : En} {μ : Sto} : gNm i fl s ρ μ = some (ρ.set i (some (own fl s μ).1), (own fl s μ).2) := Eq.trans rfl rfl
theorem own_false {s : S} {μ : Sto} : own false s μ = (rt s, μ) := by
  cases s with
  | pot j is ds => cases j <;> rfl
  | _ => rfl
theorem own_val {fl : Bool} {d : D} {μ : Sto} : own fl (.val d) μ = (.val d, μ) := by cases fl <;> rfl
theorem own_cell {fl : Bool} {k : Nat} {μ : Sto} : own fl (.cell k) μ = (.cell k, μ) := by cases fl <;> rfl
theorem own_fr {ds : List D} {μ : Sto} : own true (.fr ds) μ = (.cell μ.length, μ ++ [.lst ds]) := Eq.trans rfl rfl
def par2K (i j : Nat) (ρ : En) (μ : Sto) : List S → Option (Fl × En × Sto)
  | [s, t] => some (.nx, (ρ.set i (some s)).set j (some t), μ)
  | _ => none
def par3K (i j l : Nat) (ρ : En) (μ : Sto) : List S → Option (Fl × En × Sto)
  | [s, t, u] => some (.nx, ((ρ.set i (some s)).set j (some t)).set l (some u), μ)
  | _ => none
theorem sPar2_ap {i j : Nat} {ms : List (Bool × ME)} {ρ : En} {μ : Sto} : sPar2 i j ms ρ μ = exThen (mOwns ms ρ μ) ρ fun ss μ1 => par2K i j ρ μ1 ss := by
  unfold sPar2
  congr
theorem sPar3_ap {i j l : Nat} {ms : List (Bool × ME)} {ρ : En} {μ : Sto} : sPar3 i j l ms ρ μ = exThen (mOwns ms ρ μ) ρ fun ss μ1 => par3K i j l ρ μ1 ss := by
  unfold sPar3
  congr
theorem par2K_ap {i j : Nat} {ρ : En} {μ : Sto} {s t : S} : par2K i j ρ μ [s, t] = some (.nx, (ρ.set i (some s)).set j (some t), μ) := Eq.trans rfl rfl
theorem par3K_ap {i j l : Nat} {ρ : En} {μ : Sto} {s t u : S} : par3K i j l ρ μ [s, t, u] = some (.nx, ((ρ.set i (some s)).set j (some t)).set l (some u), μ) := Eq.trans rfl rfl
theorem gVals_nil {ρ : En} {μ : Sto} : gVals [] [] ρ μ = some (ρ, μ) := Eq.trans rfl rfl
def gVK (ts : List MG) (ds : List D) : Option (En × Sto) → Option (En × Sto)
  | some (ρ1, μ1) => gVals ts ds ρ1 μ1
  | none => none
theorem gVK_some {ts : List MG} {ds : List D} {ρ : En} {μ : Sto} : gVK ts ds (some (ρ, μ)) = gVals ts ds ρ μ := Eq.trans rfl rfl
theorem gVals_cons {t : MG} {ts : List MG} {d : D} {ds : List D} {ρ : En} {μ : Sto} : gVals (t :: ts) (d :: ds) ρ μ = gVK ts ds (t (.val d) ρ μ) := by
  show (match t (.val d) ρ μ with | some (ρ1, μ1) => gVals ts ds ρ1 μ1 | none => none) = _
  rcases t (.val d) ρ μ with _ | ⟨_, _⟩ <;> rfl
theorem gTu_tup {ts : List MG} {ds : List D} {ρ : En} {μ : Sto} : gTu ts (.val (.tup ds)) ρ μ = gVals ts ds ρ μ := Eq.trans rfl rfl
theorem gTu_lst {ts : List MG} {ds : List D} {ρ : En} {μ : Sto} : gTu ts (.val (.lst ds)) ρ μ = gVals ts ds ρ μ := Eq.trans rfl rfl
theorem gTu_fr {ts : List MG} {ds : List D} {ρ : En} {μ : Sto} : gTu ts (.fr ds) ρ μ = gVals ts ds ρ μ := Eq.trans rfl rfl
/-- l[i] = v of a cell -/
theorem gSub_cell {o i : ME} {s : S} {ρ : En} {μ : Sto} {d : D} {k p : Nat} {j : Int} {ds : List D} (hs : rt s = .val d) (ho : o ρ μ = some (.ok (.cell k), μ)) (hi : i ρ μ = some (.ok (.val (.int j)), μ)) (hk : μ[k]? = some (.lst ds)) (hp : ixN ds.length j = some p) :
    gSubM o i s ρ μ = some (ρ, μ.set k (.lst (ds.set p d))) := by
  unfold gSubM
  rw [hs]
  unfold toD
  dsimp only
  rw [ho]
  dsimp only
  rw [hi]
  dsimp only
  rw [show rt (.cell k) = .cell k from rfl, show vw μ (.val (.int j)) = some (.int j) from rfl]
  dsimp only
  rw [hk]
  dsimp only
  rw [hp]
theorem finF_nx {n : Nat} {ρ : En} {μ : Sto} : finF n (some (.nx, ρ, μ)) = some (.ok (.val .non), μ.take n) := Eq.trans rfl rfl
theorem finF_ex {n : Nat} {ρ : En} {μ : Sto} {x : Ex} : finF n (some (.ex x, ρ, μ)) = some (.error x, μ.take n) := Eq.trans rfl rfl
theorem finF_rt {n : Nat} {ρ : En} {μ : Sto} {s : S} : finF n (some (.rt s, ρ, μ)) = finR n μ s := Eq.trans rfl rfl
theorem finR_val {n : Nat} {μ : Sto} {d : D} : finR n μ (.val d) = some (.ok (.val d), μ.take n) := Eq.trans rfl rfl
def chK (op' : D → D → Option S) (c : ME) (s2 : S) (ρ : En) (μ : Sto) : Option Bool → Option R
  | some true => andThen (c ρ μ) fun s4 μ4 => fin2 op' μ4 s2 s4
  | some false => some (.ok (.val (.bl false)), μ)
  | none => none
theorem chK_some {op' : D → D → Option S} {c : ME} {s2 : S} {ρ : En} {μ : Sto} {b : Bool} : chK op' c s2 ρ μ (some b) = if b = true then andThen (c ρ μ) (fun s4 μ4 => fin2 op' μ4 s2 s4) else some (.ok (.val (.bl false)), μ) := by cases b <;> rfl
theorem mChain_ap {op op' : D → D → Option S} {a b c : ME} {ρ : En} {μ : Sto} : mChain op op' a b c ρ μ = andThen (a ρ μ) fun s1 μ1 => andThen (b ρ μ1) fun s2 μ2 => andThen (fin2 op μ2 (rt s1) (rt s2)) fun s3 μ3 => chK op' c (rt s2) ρ μ3 (bl? s3) := Eq.trans rfl rfl
theorem finR_cell {n k : Nat} {μ : Sto} {ds : List D} (h : μ[k]? = some (.lst ds)) (hn : n ≤ k) : finR n μ (.cell k) = some (.ok (.fr ds), μ.take n) := by
  unfold finR
  dsimp only
  simp [h, hn]
theorem finR_fr {n : Nat} {μ : Sto} {d : List D} : finR n μ (.fr d) = some (.ok (.fr d), μ.take n) := Eq.trans rfl rfl
theorem finF_if {n : Nat} {c : Prop} [Decidable c] {x y : Option (Fl × En × Sto)} : finF n (if c then x else y) = if c then finF n x else finF n y := by split <;> rfl
theorem mCallF_ap {fi : FnI} {n : Nat} {ks : List Str} {ms kms : List ME} {ρ : En} {μ : Sto} : mCallF fi n ks ms kms ρ μ = andThen (mArgs ms ρ μ) fun ss μ1 => andThen (mArgs kms ρ μ1) fun ts μ2 => callF fi n ks ss ts μ2 := Eq.trans rfl rfl
theorem mMake_ap {mi : MkI} {n : Nat} {ks : List Str} {ms kms : List ME} {ρ : En} {μ : Sto} : mMake mi n ks ms kms ρ μ = andThen (mArgs ms ρ μ) fun ss μ1 => andThen (mArgs kms ρ μ1) fun ts μ2 => callM mi n ks ss ts μ2 := Eq.trans rfl rfl
theorem callF_eq {fi : FnI} {n : Nat} {ks : List Str} {ss ts bs : List S} {μ : Sto} (h1 : ss.length = n) (h2 : ts.length = ks.length) (hb : bindG ks ss ts (fi.dfl.map .val) fi.ps.length fi.ps 0 = some bs) : callF fi n ks ss ts μ = fi.sem bs μ := by
  unfold callF
  rw [if_pos ⟨h1, h2⟩, hb]
theorem callM_eq {mi : MkI} {n : Nat} {ks : List Str} {ss ts bs : List S} {μ : Sto} (h1 : ss.length = n) (h2 : ts.length = ks.length) (hb : bindG ks (.cell μ.length :: ss) ts (mi.fi.dfl.map .val) mi.fi.ps.length mi.fi.ps 0 = some bs) : callM mi n ks ss ts μ = finM mi μ.length (mi.fi.sem bs (μ ++ [.ins mi.c []])) := by
  unfold callM
  rw [if_pos ⟨h1, h2⟩, hb]
def methK (m : Str) (mt : Nat → Option FnI) (n : Nat) (ks : List Str) (ms kms : List ME) (ρ : En) (s0 : S) (μ0 : Sto) : Option Nat → Option R
  | some c => (match mt c with
    | some fi => andThen (mArgs ms ρ μ0) fun ss μ1 => andThen (mArgs kms ρ μ1) fun ts μ2 => callF fi (n + 1) ks (rt s0 :: ss) ts μ2
    | none => none)
  | none => none
theorem mMeth_ap {m : Str} {mt : Nat → Option FnI} {n : Nat} {ks : List Str} {a : ME} {ms kms : List ME} {ρ : En} {μ : Sto} : mMeth m mt n ks a ms kms ρ μ = andThen (a ρ μ) fun s0 μ0 => methK m mt n ks ms kms ρ s0 μ0 (clsOf m μ0 (rt s0)) := by
  unfold mMeth
  congr
theorem methK_some {m : Str} {mt : Nat → Option FnI} {n : Nat} {ks : List Str} {ms kms : List ME} {ρ : En} {s0 : S} {μ0 : Sto} {c : Nat} {fi : FnI} (h : mt c = some fi) : methK m mt n ks ms kms ρ s0 μ0 (some c) = andThen (mArgs ms ρ μ0) fun ss μ1 => andThen (mArgs kms ρ μ1) fun ts μ2 => callF fi (n + 1) ks (rt s0 :: ss) ts μ2 := by
  show (match mt c with
    | some fi => andThen (mArgs ms ρ μ0) fun ss μ1 => andThen (mArgs kms ρ μ1) fun ts μ2 => callF fi (n + 1) ks (rt s0 :: ss) ts μ2
    | none => none) = _
  rw [h]
theorem clsOf_obj {m : Str} {μ : Sto} {c : Nat} {fs : List D} : clsOf m μ (.val (.obj c fs)) = some c := Eq.trans rfl rfl
theorem mAttr_ap {fls : List (List Str)} {f : Str} {a : ME} {ρ : En} {μ : Sto} : mAttr fls f a ρ μ = andThen (a ρ μ) (finA fls f) := Eq.trans rfl rfl
def fldK (μ : Sto) (fs : List D) : Option Nat → Option R
  | some k => (match fs[k]? with
    | some d => some (.ok (.val d), μ)
    | none => none)
  | none => none
theorem finA_obj {fls : List (List Str)} {f : Str} {c : Nat} {fs : List D} {μ : Sto} : finA fls f (.val (.obj c fs)) μ = fldK μ fs (fldIx fls c f) := by
  unfold finA fldK
  dsimp only
  all_goals (rcases fldIx fls c f with _ | k <;> first | rfl | (dsimp only; all_goals (rcases fs[k]? with _ | d <;> rfl)))
theorem ite_true' {α : Type} {x y : α} : (if (true = true) then x else y) = x := if_pos rfl
theorem ite_false' {α : Type} {x y : α} : (if (false = true) then x else y) = y := if_neg Bool.false_ne_true

theorem ite_T {α : Type} {h : Decidable True} {x y : α} : @ite α True h x y = x := if_pos trivial
theorem ite_F {α : Type} {h : Decidable False} {x y : α} : @ite α False h x y = y := if_neg id

/-! ### loops -/
def forK (t : MG) (b : MS) (ds : List D) : Option (Fl × En × Sto) → Option (Fl × En × Sto)
  | some (.nx, ρ2, μ2) => floop t b ds ρ2 μ2
  | some (.ct, ρ2, μ2) => floop t b ds ρ2 μ2
  | some (.bk, ρ2, μ2) => some (.nx, ρ2, μ2)
  | r => r
theorem floop_cons {t : MG} {b : MS} {d : D} {ds : List D} {ρ ρ1 : En} {μ μ1 : Sto} (h : t (.val d) ρ μ = some (ρ1, μ1)) : floop t b (d :: ds) ρ μ = forK t b ds (b ρ1 μ1) := by
  show (match t (.val d) ρ μ with
    | none => none
    | some (ρ1, μ1) => match b ρ1 μ1 with
      | some (.nx, ρ2, μ2) => floop t b ds ρ2 μ2
      | some (.ct, ρ2, μ2) => floop t b ds ρ2 μ2
      | some (.bk, ρ2, μ2) => some (.nx, ρ2, μ2)
      | r => r) = _
  rw [h]
  show (match b ρ1 μ1 with
      | some (.nx, ρ2, μ2) => floop t b ds ρ2 μ2
      | some (.ct, ρ2, μ2) => floop t b ds ρ2 μ2
      | some (.bk, ρ2, μ2) => some (.nx, ρ2, μ2)
      | r => r) = _
  unfold forK
  rcases b ρ1 μ1 with _ | ⟨fl, ρ2, μ2⟩
  · rfl
  · cases fl <;> rfl
/-- a loop whose body always comes to its end: an invariant -/
theorem floop_inv {t : MG} {b : MS} (I : En → Sto → Prop) (P : D → Prop) (step : ∀ d ρ μ, P d → I ρ μ → ∃ ρ1 μ1, t (.val d) ρ μ = some (ρ1, μ1) ∧ ∃ ρ2 μ2, b ρ1 μ1 = some (.nx, ρ2, μ2) ∧ I ρ2 μ2) :
    ∀ (ds : List D) (ρ : En) (μ : Sto), (∀ d ∈ ds, P d) → I ρ μ → ∃ ρ' μ', floop t b ds ρ μ = some (.nx, ρ', μ') ∧ I ρ' μ'
  | [], ρ, μ, _, h => ⟨ρ, μ, rfl, h⟩
  | d :: ds, ρ, μ, hp, h => by
    obtain ⟨ρ1, μ1, e1, ρ2, μ2, e2, h2⟩ := step d ρ μ (hp d List.mem_cons_self) h
    obtain ⟨ρ', μ', e3, h3⟩ := floop_inv I P step ds ρ2 μ2 (fun x hx => hp x (List.mem_cons_of_mem _ hx)) h2
    refine ⟨ρ', μ', ?_, h3⟩
    rw [floop_cons e1, e2]
    exact e3
theorem sFor_ap {i : MI} {t : MG} {b : MS} {ρ : En} {μ : Sto} : sFor i t b ρ μ = exThen (i ρ μ) ρ fun ds μ1 => floop t b ds ρ μ1 := Eq.trans rfl rfl
theorem iVal_ap {m : ME} {ρ : En} {μ : Sto} : iVal m ρ μ = andThen (m ρ μ) (finI itemsOf) := Eq.trans rfl rfl
theorem finI_lst {ds : List D} {μ : Sto} : finI itemsOf (.val (.lst ds)) μ = some (.ok ds, μ) := Eq.trans rfl rfl
theorem finI_fr {ds : List D} {μ : Sto} : finI itemsOf (.fr ds) μ = some (.ok ds, μ) := Eq.trans rfl rfl
theorem finI_tup {ds : List D} {μ : Sto} : finI itemsOf (.val (.tup ds)) μ = some (.ok ds, μ) := Eq.trans rfl rfl
theorem iRange1_eq {a : ME} {ρ : En} {μ μ1 : Sto} {j : Int} (h : a ρ μ = some (.ok (.val (.int j)), μ1)) (hj : inR j = true) : iRange1 a ρ μ = some (.ok (rangeD 0 j.toNat), μ1) := by
  unfold iRange1
  rw [mArgs_cons, h]
  show (if inR j = true then _ else _) = _
  rw [if_pos hj]
theorem wloop_go {t : MT} {b : MS} {n : Nat} {ρ ρ2 : En} {μ μ1 μ2 : Sto} (h1 : t ρ μ = some (.ok true, μ1)) (h2 : b ρ μ1 = some (.nx, ρ2, μ2)) : wloop t b (n + 1) ρ μ = wloop t b n ρ2 μ2 := by
  show exThen (t ρ μ) ρ _ = _
  rw [h1]
  show (if true = true then (match b ρ μ1 with
      | some (.nx, ρ2, μ2) => wloop t b n ρ2 μ2
      | some (.ct, ρ2, μ2) => wloop t b n ρ2 μ2
      | some (.bk, ρ2, μ2) => some (.nx, ρ2, μ2)
      | r => r) else some (.nx, ρ, μ1)) = _
  rw [if_pos rfl, h2]
theorem wloop_stop {t : MT} {b : MS} {n : Nat} {ρ : En} {μ μ1 : Sto} (h1 : t ρ μ = some (.ok false, μ1)) : wloop t b (n + 1) ρ μ = some (.nx, ρ, μ1) := by
  show exThen (t ρ μ) ρ _ = _
  rw [h1]
  rfl

/-! ### the drawn hand -/
/-- a hand at k, drawn from at most n times -/
def HandAt (μ : Sto) (k n : Nat) : Prop := ∃ a b c : Int, μ[k]? = some (.lst [.int a, .int b, .int c]) ∧ 0 ≤ b ∧ b < 2 ^ 61 ∧ 0 ≤ c ∧ c ≤ n
/-- only k's cell is otherwise -/
def Upd (k : Nat) (μ μ' : Sto) : Prop := μ'.length = μ.length ∧ ∀ j, j ≠ k → μ'[j]? = μ[j]?
theorem Upd.refl {k : Nat} {μ : Sto} : Upd k μ μ := ⟨rfl, fun _ _ => rfl⟩
theorem Upd.trans {k : Nat} {μ μ1 μ2 : Sto} (a : Upd k μ μ1) (b : Upd k μ1 μ2) : Upd k μ μ2 := ⟨b.1.trans a.1, fun j h => (b.2 j h).trans (a.2 j h)⟩
theorem Upd.set {k : Nat} {μ : Sto} {c : C} : Upd k μ (μ.set k c) := ⟨List.length_set, fun j h => List.getElem?_set_ne (Ne.symm h)⟩
theorem Upd.take {k : Nat} {μ μ' : Sto} (h : Upd k μ μ') : μ'.take μ.length = μ' := List.take_of_length_le (Nat.le_of_eq h.1)
theorem HandAt.mono {μ : Sto} {k n m : Nat} (h : HandAt μ k n) (e : n ≤ m) : HandAt μ k m := by
  obtain ⟨a, b, c, h1, h2, h3, h4, h5⟩ := h
  exact ⟨a, b, c, h1, h2, h3, h4, by omega⟩
theorem get_set {μ : Sto} {k : Nat} {x c : C} (h : μ[k]? = some x) : (μ.set k c)[k]? = some c := List.getElem?_set_self (List.getElem?_eq_some_iff.mp h).1

theorem get_end {α : Type} {μ : List α} {x : α} : (μ ++ [x])[μ.length]? = some x := by rw [List.getElem?_append_right (Nat.le_refl _), Nat.sub_self]; rfl
theorem set_end {α : Type} {μ : List α} {x y : α} : (μ ++ [x]).set μ.length y = μ ++ [y] := by
  rw [List.set_append_right _ _ (Nat.le_refl _), Nat.sub_self]; rfl
theorem take_end {α : Type} {μ : List α} {x : α} : (μ ++ [x]).take μ.length = μ := by rw [List.take_left]
theorem fld_ap {n : Nat} {f : Str} {o m : ME} {ρ : En} {μ : Sto} {d : D} {k c : Nat} {fs : List (Str × D)} (hm : m ρ μ = some (.ok (.val d), μ)) (ho : o ρ μ = some (.ok (.cell k), μ)) (hk : μ[k]? = some (.ins c fs)) (hc : c < n) (hl : fs.length < 1000) :
    sFldM n f o m ρ μ = some (.nx, ρ, μ.set k (.ins c (putD f d fs))) := by
  unfold sFldM
  rw [hm]
  show exThen (o ρ μ) ρ _ = _
  rw [ho]
  show (match μ[k]? with
      | some (.ins c fs) => if c < n ∧ fs.length < 1000 then some (Fl.nx, ρ, μ.set k (.ins c (putD f d fs))) else none
      | _ => none) = _
  rw [hk]
  exact if_pos ⟨hc, hl⟩
theorem finM_ap {mi : MkI} {k c : Nat} {fs : List (Str × D)} {μ : Sto} (hk : μ[k]? = some (.ins c fs)) (hc : c = mi.c) (hf : fs.map (·.1) = mi.fl) : finM mi k (some (.ok (.val .non), μ)) = some (.ok (.val (.obj mi.c (fs.map (·.2)))), μ.take k) := by
  unfold finM
  dsimp only
  rw [hk]
  exact if_pos ⟨hc, hf⟩
/-- Euclid's loop by remainders: what it comes to -/
theorem euclid {t : MT} {b : MS} {mk : Nat → Nat → En} {μ : Sto} (h0 : ∀ x, t (mk x 0) μ = some (.ok false, μ)) (h1 : ∀ x y, 0 < y → t (mk x y) μ = some (.ok true, μ)) (h2 : ∀ x y, 0 < y → b (mk x y) μ = some (.nx, mk y (x % y), μ)) :
    ∀ (y x : Nat), ∃ n, wloop t b n (mk x y) μ = some (.nx, mk (Nat.gcd x y) 0, μ) := by
  intro y
  induction y using Nat.strongRecOn with
  | ind y ih =>
    intro x
    by_cases hy : y = 0
    · subst hy
      exact ⟨1, by rw [wloop_stop (h0 x), Nat.gcd_zero_right]⟩
    · obtain ⟨n, hn⟩ := ih (x % y) (Nat.mod_lt _ (Nat.pos_of_ne_zero hy)) y
      refine ⟨n + 1, ?_⟩
      rw [wloop_go (h1 x y (Nat.pos_of_ne_zero hy)) (h2 x y (Nat.pos_of_ne_zero hy)), hn]
      congr 3
      rw [Nat.gcd_comm y, ← Nat.gcd_rec, Nat.gcd_comm]
theorem mem_ints {P : Int → Prop} {l : List Int} {d : D} (h : d ∈ l.map D.int) (hp : ∀ x ∈ l, P x) : ∃ v, d = .int v ∧ P v := by
  obtain ⟨x, hx, rfl⟩ := List.mem_map.mp h
  exact ⟨x, rfl, hp x hx⟩

/-! ### comprehensions -/
theorem mComp_ap {i : MI} {t : MG} {c : MT} {el : ME} {ow : List Nat} {ρ : En} {μ : Sto} : mComp i t c el ow ρ μ = andThen (i ρ μ) fun ds μ1 => finC μ1.length (cloop t c el (wipeE ρ ow) μ1.length ds (μ1 ++ [.lst []])) := Eq.trans rfl rfl
theorem cput_end {μ : Sto} {acc : List D} {d : D} (h : acc.length < 1000) : cput μ.length (.val d) (μ ++ [.lst acc]) = some (μ ++ [.lst (acc ++ [d])]) := by
  have e : toD (μ ++ [C.lst acc]) (rt (.val d)) = some (d, μ ++ [C.lst acc]) := Eq.trans rfl rfl
  unfold cput
  rw [e]
  dsimp only
  rw [get_end]
  dsimp only
  rw [if_pos (Nat.lt_of_lt_of_le h (by decide)), set_end]
theorem cloop_map {t : MG} {el : ME} {ρ : En} {μ : Sto} (f : D → D) : ∀ (ds acc : List D), acc.length + ds.length ≤ 1000 → (∀ d ∈ ds, ∀ ν : Sto, ∃ ρ', t (.val d) ρ ν = some (ρ', ν) ∧ el ρ' ν = some (.ok (.val (f d)), ν)) →
    cloop t tTrue el ρ μ.length ds (μ ++ [.lst acc]) = some (μ ++ [.lst (acc ++ ds.map f)])
  | [], acc, _, _ => by rw [List.map_nil, List.append_nil]; rfl
  | d :: ds, acc, hl, h => by
    obtain ⟨ρ', h1, h2⟩ := h d List.mem_cons_self (μ ++ [.lst acc])
    rw [List.length_cons] at hl
    unfold cloop
    rw [h1]
    dsimp only
    rw [tTrue_ap]
    dsimp only
    rw [h2]
    dsimp only
    rw [cput_end (by omega)]
    dsimp only
    rw [cloop_map f ds (acc ++ [f d]) (by rw [List.length_append, List.length_singleton]; omega) (fun x hx => h x (List.mem_cons_of_mem _ hx)), List.append_assoc]
    rfl
theorem comp_map {i : MI} {t : MG} {el : ME} {ow : List Nat} {ρ : En} {μ : Sto} {ds : List D} (f : D → D) (hi : i ρ μ = some (.ok ds, μ)) (hl : ds.length ≤ 1000) (h : ∀ d ∈ ds, ∀ ν : Sto, ∃ ρ', t (.val d) (wipeE ρ ow) ν = some (ρ', ν) ∧ el ρ' ν = some (.ok (.val (f d)), ν)) :
    mComp i t tTrue el ow ρ μ = some (.ok (.fr (ds.map f)), μ) := by
  rw [mComp_ap, hi, andThen_ok, cloop_map f ds [] (by rw [List.length_nil]; omega) h, List.nil_append]
  unfold finC
  dsimp only
  rw [get_end]
  dsimp only
  rw [take_end]

/-! ### a list's methods -/
def lmK (op : List D → List D → Option (D × List D)) (ms : List ME) (ρ : En) (μ1 : Sto) : S → Option R
  | .cell k => if isLst μ1[k]? = true then andThen (mArgs ms ρ μ1) (finLm op k) else none
  | _ => none
theorem mLm_ap {op : List D → List D → Option (D × List D)} {o : ME} {ms : List ME} {ρ : En} {μ : Sto} : mLm op o ms ρ μ = andThen (o ρ μ) fun s μ1 => lmK op ms ρ μ1 (rt s) := Eq.trans rfl rfl
theorem lmK_cell {op : List D → List D → Option (D × List D)} {ms : List ME} {ρ : En} {μ1 : Sto} {k : Nat} : lmK op ms ρ μ1 (.cell k) = if isLst μ1[k]? = true then andThen (mArgs ms ρ μ1) (finLm op k) else none := Eq.trans rfl rfl
theorem isLst_lst {xs : List D} : isLst (some (.lst xs)) = true := Eq.trans rfl rfl
def lm4K (k : Nat) (μ : Sto) : Option (D × List D) → Option R
  | some (r, ys) => some (.ok (.val r), μ.set k (.lst ys))
  | none => none
def lm3K (op : List D → List D → Option (D × List D)) (ds : List D) (k : Nat) (μ : Sto) : Option C → Option R
  | some (.lst xs) => lm4K k μ (op xs ds)
  | _ => none
theorem finLm_of {op : List D → List D → Option (D × List D)} {ss : List S} {ds : List D} {k : Nat} {μ : Sto} (h : vals? ss = some ds) : finLm op k ss μ = lm3K op ds k μ μ[k]? := by
  unfold finLm
  rw [vals_toDs h]
  dsimp only
  unfold lm3K
  rcases μ[k]? with _ | c
  · rfl
  · cases c with
    | lst xs =>
      dsimp only
      unfold lm4K
      rcases op xs ds with _ | ⟨_, _⟩ <;> rfl
    | frz _ => rfl
    | ins _ _ => rfl
    | pot _ _ => rfl
theorem finLm0 {op : List D → List D → Option (D × List D)} {k : Nat} {μ : Sto} : finLm op k [] μ = lm3K op [] k μ μ[k]? := finLm_of rfl
theorem finLm1 {op : List D → List D → Option (D × List D)} {d : D} {k : Nat} {μ : Sto} : finLm op k [.val d] μ = lm3K op [d] k μ μ[k]? := finLm_of rfl
theorem finLm2 {op : List D → List D → Option (D × List D)} {d e : D} {k : Nat} {μ : Sto} : finLm op k [.val d, .val e] μ = lm3K op [d, e] k μ μ[k]? := finLm_of rfl
theorem lm3K_lst {op : List D → List D → Option (D × List D)} {xs ds : List D} {k : Nat} {μ : Sto} : lm3K op ds k μ (some (.lst xs)) = lm4K k μ (op xs ds) := Eq.trans rfl rfl
theorem lm4K_some {r : D} {ys : List D} {k : Nat} {μ : Sto} : lm4K k μ (some (r, ys)) = some (.ok (.val r), μ.set k (.lst ys)) := Eq.trans rfl rfl
theorem lApp_ok {xs : List D} {d : D} (h : xs.length < 1000) : lApp xs [d] = some (.non, xs ++ [d]) := by
  show (if xs.length < sizeLine then _ else _) = _
  exact if_pos (Nat.lt_of_lt_of_le h (by decide))
theorem add_ll {a b : List D} (h : a.length + b.length ≤ 1000) : dAdd (.lst a) (.lst b) = some (.fr (a ++ b)) := by
  show (if a.length + b.length ≤ sizeLine then _ else _) = _
  exact if_pos (Nat.le_trans h (by decide))
theorem finI_end {μ : Sto} {ds : List D} : finI itemsOf (.cell μ.length) (μ ++ [.lst ds]) = some (.ok ds, μ ++ [.frz (.lst ds)]) := by
  unfold finI
  have e : toD (μ ++ [.lst ds]) (rt (.cell μ.length)) = some (.lst ds, μ ++ [.frz (.lst ds)]) := by
    unfold toD
    dsimp only [rt]
    rw [get_end]
    dsimp only
    rw [set_end]
  rw [e]
  rfl
theorem comp_map' {i : MI} {t : MG} {el : ME} {ow : List Nat} {ρ : En} {μ μ1 : Sto} {ds : List D} (f : D → D) (hi : i ρ μ = some (.ok ds, μ1)) (hl : ds.length ≤ 1000) (h : ∀ d ∈ ds, ∀ ν : Sto, ∃ ρ', t (.val d) (wipeE ρ ow) ν = some (ρ', ν) ∧ el ρ' ν = some (.ok (.val (f d)), ν)) :
    mComp i t tTrue el ow ρ μ = some (.ok (.fr (ds.map f)), μ1) := by
  rw [mComp_ap, hi, andThen_ok, cloop_map f ds [] (by rw [List.length_nil]; omega) h, List.nil_append]
  unfold finC
  dsimp only
  rw [get_end]
  dsimp only
  rw [take_end]
theorem bls_true : ∀ {ds : List D}, bls? (ds.map fun _ => .bl true) = some (ds.map fun _ => true)
  | [] => rfl
  | d :: ds => by
    show (bls? (ds.map fun _ => .bl true)).map (true :: ·) = _
    rw [bls_true]
    rfl
theorem ball_true {ds : List D} : bAll [.lst (ds.map fun _ => .bl true)] = some (.val (.bl true)) := by
  show (bls? (ds.map fun _ => .bl true)).map _ = _
  rw [bls_true]
  show some (S.val (.bl ((ds.map fun _ => true).all id))) = _
  congr 3
  rw [List.all_eq_true]
  intro x hx
  obtain ⟨_, _, rfl⟩ := List.mem_map.mp hx
  rfl

theorem cloop_filter {t : MG} {c : MT} {el : ME} {ρ : En} {μ : Sto} (p : D → Bool) (f : D → D) : ∀ (ds acc : List D), acc.length + ds.length ≤ 1000 → (∀ d ∈ ds, ∀ ν : Sto, ∃ ρ', t (.val d) ρ ν = some (ρ', ν) ∧ c ρ' ν = some (.ok (p d), ν) ∧ (p d = true → el ρ' ν = some (.ok (.val (f d)), ν))) →
    cloop t c el ρ μ.length ds (μ ++ [.lst acc]) = some (μ ++ [.lst (acc ++ (ds.filter p).map f)])
  | [], acc, _, _ => by rw [List.filter_nil, List.map_nil, List.append_nil]; rfl
  | d :: ds, acc, hl, h => by
    obtain ⟨ρ', h1, h2, h3⟩ := h d List.mem_cons_self (μ ++ [.lst acc])
    rw [List.length_cons] at hl
    unfold cloop
    rw [h1]
    dsimp only
    rw [h2]
    cases e : p d with
    | false =>
      dsimp only
      rw [cloop_filter p f ds acc (by omega) (fun x hx => h x (List.mem_cons_of_mem _ hx)), List.filter_cons_of_neg (by rw [e]; exact Bool.false_ne_true)]
    | true =>
      dsimp only
      rw [h3 e]
      dsimp only
      rw [cput_end (by omega)]
      dsimp only
      rw [cloop_filter p f ds (acc ++ [f d]) (by rw [List.length_append, List.length_singleton]; omega) (fun x hx => h x (List.mem_cons_of_mem _ hx)), List.append_assoc, List.filter_cons_of_pos e]
      rfl
theorem comp_filter {i : MI} {t : MG} {c : MT} {el : ME} {ow : List Nat} {ρ : En} {μ μ1 : Sto} {ds : List D} (p : D → Bool) (f : D → D) (hi : i ρ μ = some (.ok ds, μ1)) (hl : ds.length ≤ 1000)
    (h : ∀ d ∈ ds, ∀ ν : Sto, ∃ ρ', t (.val d) (wipeE ρ ow) ν = some (ρ', ν) ∧ c ρ' ν = some (.ok (p d), ν) ∧ (p d = true → el ρ' ν = some (.ok (.val (f d)), ν))) :
    mComp i t c el ow ρ μ = some (.ok (.fr ((ds.filter p).map f)), μ1) := by
  rw [mComp_ap, hi, andThen_ok, cloop_filter p f ds [] (by rw [List.length_nil]; omega) h, List.nil_append]
  unfold finC
  dsimp only
  rw [get_end]
  dsimp only
  rw [take_end]
theorem is_non {x : D} : dIs x .non = some (.val (.bl (isNon x))) := Eq.trans rfl rfl
theorem isnot_non {x : D} : dIsNot x .non = some (.val (.bl (!isNon x))) := Eq.trans rfl rfl
theorem isNon_non : isNon .non = true := Eq.trans rfl rfl
theorem isNon_int {i : Int} : isNon (.int i) = false := Eq.trans rfl rfl
theorem isNon_tup {ds : List D} : isNon (.tup ds) = false := Eq.trans rfl rfl
theorem isNon_obj {c : Nat} {ds : List D} : isNon (.obj c ds) = false := Eq.trans rfl rfl
theorem eq_bb {a b : Bool} : dEq (.bl a) (.bl b) = some (.val (.bl (a == b))) := by cases a <;> cases b <;> rfl
end Sz

set_option Elab.async false
set_option linter.all false
set_option maxRecDepth 100000
set_option maxHeartbeats 4000000
/-! Sz T: more reckoning: loops, places, data. -/
namespace Sz
open PySem PySem.Spec L2
/-- a loop whose body always comes to its end: an invariant by the turn's number -/
theorem floop_ix {t : MG} {b : MS} (I : Nat → En → Sto → Prop) : ∀ (ds : List D) (k : Nat) (ρ : En) (μ : Sto),
    (∀ i d ρ μ, ds[i]? = some d → I (k + i) ρ μ → ∃ ρ1 μ1, t (.val d) ρ μ = some (ρ1, μ1) ∧ ∃ ρ2 μ2, b ρ1 μ1 = some (.nx, ρ2, μ2) ∧ I (k + i + 1) ρ2 μ2) → I k ρ μ →
    ∃ ρ' μ', floop t b ds ρ μ = some (.nx, ρ', μ') ∧ I (k + ds.length) ρ' μ'
  | [], k, ρ, μ, _, h => ⟨ρ, μ, rfl, h⟩
  | d :: ds, k, ρ, μ, step, h => by
    obtain ⟨ρ1, μ1, e1, ρ2, μ2, e2, h2⟩ := step 0 d ρ μ rfl h
    obtain ⟨ρ', μ', e3, h3⟩ := floop_ix I ds (k + 1) ρ2 μ2 (fun i x ρ μ hx hI => by
      have e : k + 1 + i = k + (i + 1) := by omega
      rw [e] at hI ⊢
      exact step (i + 1) x ρ μ (by rw [List.getElem?_cons_succ]; exact hx) hI) h2
    refine ⟨ρ', μ', ?_, ?_⟩
    · rw [floop_cons e1, e2]
      exact e3
    · rw [List.length_cons, show k + (ds.length + 1) = k + 1 + ds.length by omega]
      exact h3
/-- a loop that looks for a thing -/
theorem floop_find {i : Nat} {b : MS} {μ : Sto} {ρ : En} (p : D → Bool) (ret : D → S) : ∀ (ds : List D),
    (∀ d ∈ ds, b (ρ.set i (some (.val d))) μ = if p d = true then some (.rt (ret d), ρ.set i (some (.val d)), μ) else some (.nx, ρ.set i (some (.val d)), μ)) →
    ∀ x : Option S, ∃ y : Option S, floop (gNm i false) b ds (ρ.set i x) μ = match ds.find? p with
      | some d => some (.rt (ret d), ρ.set i y, μ)
      | none => some (.nx, ρ.set i y, μ)
  | [], _, x => ⟨x, rfl⟩
  | d :: ds, h, x => by
    have e1 : gNm i false (.val d) (ρ.set i x) μ = some (ρ.set i (some (.val d)), μ) := by
      rw [gNm_ap, own_false, rt_val, List.set_set]
    have e2 := h d List.mem_cons_self
    cases hp : p d with
    | true =>
      rw [hp, if_pos rfl] at e2
      refine ⟨some (.val d), ?_⟩
      rw [floop_cons e1, e2, List.find?_cons_of_pos hp]
      rfl
    | false =>
      rw [hp, if_neg Bool.false_ne_true] at e2
      obtain ⟨y, hy⟩ := floop_find p ret ds (fun d hd => h d (List.mem_cons_of_mem _ hd)) (some (.val d))
      refine ⟨y, ?_⟩
      rw [floop_cons e1, e2, List.find?_cons_of_neg (by rw [hp]; exact Bool.false_ne_true)]
      exact hy
theorem atI_nat {α : Type} {l : List α} {i : Nat} : atI l (i : Int) = l[i]? := by
  unfold atI ixN
  rw [if_pos (by omega)]
  by_cases h : (i : Int) < (l.length : Int)
  · rw [if_pos h]
    show l[(i : Int).toNat]? = _
    rw [Int.toNat_natCast]
  · rw [if_neg h]
    rw [List.getElem?_eq_none (by omega)]
    rfl
theorem atI_at {α : Type} {l : List α} {i : Int} (h0 : 0 ≤ i) : atI l i = l[i.toNat]? := by
  have e : i = ((i.toNat : Nat) : Int) := by omega
  rw [e, atI_nat]
  rfl
theorem atI_last {α : Type} {l : List α} (h : l ≠ []) : atI l (-1) = some (l.getLast h) := by
  unfold atI ixN
  have hl : 0 < l.length := List.length_pos_iff.mpr h
  rw [if_neg (by omega), if_pos (by omega)]
  show l[((l.length : Int) + -1).toNat]? = _
  rw [show ((l.length : Int) + -1).toNat = l.length - 1 by omega, List.getLast_eq_getElem, List.getElem?_eq_getElem (by omega)]
theorem rangeD_get {lo : Int} {n i : Nat} {d : D} (h : (rangeD lo n)[i]? = some d) : i < n ∧ d = .int (lo + i) := by
  unfold rangeD at h
  rw [List.getElem?_map] at h
  obtain ⟨j, h1, rfl⟩ := Option.map_eq_some_iff.mp h
  obtain ⟨h2, h3⟩ := List.getElem?_eq_some_iff.mp h1
  rw [List.length_range] at h2
  rw [List.getElem_range] at h3
  subst h3
  exact ⟨h2, rfl⟩
theorem rangeD_mem' {lo : Int} {n : Nat} {d : D} (h : d ∈ rangeD lo n) : ∃ i : Nat, i < n ∧ d = .int (lo + i) := by
  unfold rangeD at h
  obtain ⟨i, hi, rfl⟩ := List.mem_map.mp h
  exact ⟨i, List.mem_range.mp hi, rfl⟩
theorem rangeD_len {lo : Int} {n : Nat} : (rangeD lo n).length = n := by
  unfold rangeD
  rw [List.length_map, List.length_range]
theorem iRange1_to {a : ME} {ρ : En} {μ μ1 : Sto} {n : Nat} (h : a ρ μ = some (.ok (.val (.int (n : Int))), μ1)) (hn : n < 2 ^ 61) : iRange1 a ρ μ = some (.ok (rangeD 0 n), μ1) := by
  have e := iRange1_eq h (by unfold inR; rw [Bool.and_eq_true, decide_eq_true_eq, decide_eq_true_eq]; omega)
  rw [e, Int.toNat_natCast]
theorem iRange2_eq {a b : ME} {ρ : En} {μ μ1 μ2 : Sto} {i j : Int} (h : a ρ μ = some (.ok (.val (.int i)), μ1)) (h' : b ρ μ1 = some (.ok (.val (.int j)), μ2)) (hi : inR i = true) (hj : inR j = true) : iRange2 a b ρ μ = some (.ok (rangeD i (j - i).toNat), μ2) := by
  unfold iRange2
  rw [mArgs_cons, h, andThen_ok, mArgs_cons, h', andThen_ok, mArgs_nil, andThen_ok, andThen_ok, andThen_ok]
  show (if (inR i && inR j) = true then _ else _) = _
  rw [hi, hj]
  rfl
theorem inR_of {i : Int} (h : i.natAbs < 2 ^ 61) : inR i = true := by
  unfold inR
  rw [Bool.and_eq_true, decide_eq_true_eq, decide_eq_true_eq]
  omega
theorem toPys_ints : ∀ {ns : List Int}, toPys (ns.map D.int) = some (ns.map PyData.int)
  | [] => rfl
  | n :: ns => by
    show (match toPy (.int n), toPys (ns.map D.int) with
      | some p, some ps => some (p :: ps)
      | _, _ => none) = _
    rw [toPys_ints]
    rfl
theorem toPy_int {n : Int} : toPy (.int n) = some (.int n) := rfl
theorem toPy_non : toPy .non = some .none := rfl
theorem toPy_tup_ints {ns : List Int} : toPy (.tup (ns.map D.int)) = some (.tuple (ns.map PyData.int)) := by
  unfold toPy
  rw [toPys_ints]
theorem ne_ss {s t : Str} : dNe (.str s) (.str t) = some (.val (.bl (!decide (s = t)))) := Eq.trans rfl rfl
theorem eq_ss {s t : Str} : dEq (.str s) (.str t) = some (.val (.bl (decide (s = t)))) := Eq.trans rfl rfl
/-- what is shown of whole numbers is short -/
theorem shown_int_len {i : Int} {k : Nat} (hk : 0 < k) (h : i.natAbs < 2 ^ k) : (PyData.int i).shown.length ≤ k + 1 := by
  show (Str.ofString (toString i)).length ≤ k + 1
  rw [ofString_length]
  refine int_text_length_le hk ?_
  by_cases h0 : i.natAbs = 0
  · rw [h0]
    show Nat.log2 0 < k
    rw [Nat.log2_zero]
    exact hk
  · exact (Nat.log2_lt h0).mpr h
theorem piled_ints {k : Nat} (hk : 0 < k) : ∀ {ns : List Int}, (∀ n ∈ ns, n.natAbs < 2 ^ k) → piled (PyData.shownAll (ns.map PyData.int)) ≤ (k + 3) * ns.length
  | [], _ => by
    show piled [] ≤ _
    exact Nat.zero_le _
  | n :: ns, h => by
    show piled ((PyData.int n).shown :: PyData.shownAll (ns.map PyData.int)) ≤ _
    rw [piled_cons, List.length_cons, Nat.mul_succ]
    have h1 := shown_int_len hk (h n List.mem_cons_self)
    have h2 := piled_ints hk fun x hx => h x (List.mem_cons_of_mem _ hx)
    omega
theorem text_len (ts : List Str) : (tupleText ts).length ≤ piled ts + 2 := fmt_text ts
theorem log_of {i : Int} {k n : Nat} (h : i.natAbs < 2 ^ k) (hk : k ≤ n) (h0 : 0 < n) : i.natAbs.log2 < n := by
  by_cases e : i.natAbs = 0
  · rw [e, Nat.log2_zero]
    exact h0
  · exact Nat.lt_of_lt_of_le ((Nat.log2_lt e).mpr h) hk
theorem showAll_ints {k : Nat} (hk : k ≤ 1920) : ∀ {ns : List Int}, (∀ n ∈ ns, n.natAbs < 2 ^ k) → PyData.showableAll (ns.map PyData.int) = true
  | [], _ => rfl
  | n :: ns, h => by
    show (decide (n.natAbs.log2 < 1920) && PyData.showableAll (ns.map PyData.int)) = true
    rw [decide_eq_true (log_of (h n List.mem_cons_self) hk (by decide)), showAll_ints hk fun x hx => h x (List.mem_cons_of_mem _ hx)]
    rfl
theorem depthAll_ints : ∀ {ns : List Int}, PyData.depthAll (ns.map PyData.int) = 0
  | [] => rfl
  | n :: ns => by
    show max 0 (PyData.depthAll (ns.map PyData.int)) = 0
    rw [depthAll_ints]
    rfl
theorem repr_tup_ints {k : Nat} {ns : List Int} (h : ∀ n ∈ ns, n.natAbs < 2 ^ k) (hk : 0 < k) (hk2 : k ≤ 1000) (hl : ns.length ≤ 1000) : bRepr [.tup (ns.map D.int)] = some (.val (.str (PyData.tuple (ns.map PyData.int)).shown)) := by
  show shK (toPy (.tup (ns.map D.int))) = _
  rw [toPy_tup_ints]
  show (if shOk _ = true then _ else _) = _
  rw [if_pos]
  unfold shOk
  rw [Bool.and_eq_true, Bool.and_eq_true, decide_eq_true_eq, decide_eq_true_eq]
  refine ⟨showAll_ints (by omega) h, ?_, ?_⟩
  · unfold PyData.depth
    rw [depthAll_ints]
    decide
  · show (tupleText (PyData.shownAll (ns.map PyData.int))).length ≤ sizeLine
    have h1 := text_len (PyData.shownAll (ns.map PyData.int))
    have h2 := piled_ints hk h
    have h3 : (k + 3) * ns.length ≤ 1003 * 1000 := Nat.mul_le_mul (by omega) hl
    rw [sizeLine_eq]
    omega
theorem repr_int {k : Nat} {i : Int} (h : i.natAbs < 2 ^ k) (hk2 : k ≤ 1000) : bRepr [.int i] = some (.val (.str (PyData.int i).shown)) := by
  show (if shOk (.int i) = true then _ else _) = _
  rw [if_pos]
  unfold shOk
  rw [Bool.and_eq_true, Bool.and_eq_true, decide_eq_true_eq, decide_eq_true_eq]
  have h2 : i.natAbs < 2 ^ (k + 1) := Nat.lt_of_lt_of_le h (Nat.pow_le_pow_right (by decide) (Nat.le_succ k))
  refine ⟨decide_eq_true (log_of h (by omega) (by decide)), Nat.zero_le _, ?_⟩
  have := shown_int_len (k := k + 1) (Nat.succ_pos k) h2
  rw [sizeLine_eq]
  omega
theorem repr_non : bRepr [.non] = some (.val (.str (PyData.none).shown)) := by
  have h : shOk .none = true := by decide +kernel
  show (if shOk .none = true then some (S.val (.str (PyData.none).shown)) else none) = _
  rw [if_pos h]
end Sz
namespace Sz
open PySem PySem.Spec L2
theorem tuple_lst {ds : List D} : bTuple [.lst ds] = some (.val (.tup ds)) := Eq.trans rfl rfl
theorem tuple_tup {ds : List D} : bTuple [.tup ds] = some (.val (.tup ds)) := Eq.trans rfl rfl
end Sz
namespace Sz
open PySem PySem.Spec L2
theorem map_eraseIdx' {α β : Type} {f : α → β} : ∀ {l : List α} {i : Nat}, (l.map f).eraseIdx i = (l.eraseIdx i).map f
  | [], _ => rfl
  | _ :: _, 0 => rfl
  | a :: l, i + 1 => by
    rw [List.map_cons, List.eraseIdx_cons_succ, List.eraseIdx_cons_succ, List.map_cons, map_eraseIdx']
theorem seqIx_pos {i : Int} {n : Nat} (h0 : 0 ≤ i) (h1 : i < n) : PySem.seqIndex? i n = some i.toNat := by
  unfold PySem.seqIndex?
  have h : ¬ i < 0 := by omega
  simp only [h, if_false]
  rw [if_pos (by rw [Bool.and_eq_true, decide_eq_true_eq, decide_eq_true_eq]; exact ⟨h0, h1⟩)]
end Sz
namespace Sz
open PySem PySem.Spec L2
theorem cutD_to {ds : List D} {n : Nat} : cutD ds none (some (n : Int)) = ds.take n := by
  unfold cutD
  have e0 : HT.sIx ds.length 0 none = 0 := by unfold HT.sIx; rfl
  have e1 : HT.sIx ds.length ds.length (some (n : Int)) = min n ds.length := by unfold HT.sIx; simp; omega
  rw [e0, e1, List.drop_zero, Nat.sub_zero]
  by_cases h : n ≤ ds.length
  · rw [Nat.min_eq_left h]
  · rw [Nat.min_eq_right (by omega), List.take_of_length_le (Nat.le_refl _), List.take_of_length_le (by omega)]
theorem cutD_from {ds : List D} {n : Nat} : cutD ds (some (n : Int)) none = ds.drop n := by
  unfold cutD
  have e0 : HT.sIx ds.length 0 (some (n : Int)) = min n ds.length := by unfold HT.sIx; simp; omega
  have e1 : HT.sIx ds.length ds.length none = ds.length := by unfold HT.sIx; rfl
  rw [e0, e1]
  by_cases h : n ≤ ds.length
  · rw [Nat.min_eq_left h, List.take_of_length_le (by rw [List.length_drop]; exact Nat.le_refl _)]
  · rw [Nat.min_eq_right (by omega), List.drop_of_length_le (Nat.le_refl _), List.drop_of_length_le (by omega), List.take_nil]
end Sz
namespace Sz
open PySem PySem.Spec L2
theorem getD_at {α : Type} {l : List α} {i : Nat} {d : α} (h : i < l.length) : l.getD i d = l[i] := by
  rw [List.getD_eq_getElem?_getD, List.getElem?_eq_getElem h]
  rfl
/-- rising, one by one -/
def RiseL {α : Type} [LT α] (l : List α) : Prop := ∀ i (h : i + 1 < l.length), l[i] < l[i + 1]
theorem RiseL.map {α β : Type} [LT α] [LT β] {f : α → β} (hf : ∀ a b, f a < f b ↔ a < b) {l : List α} : RiseL (l.map f) ↔ RiseL l := by
  unfold RiseL
  constructor
  · intro h i hi
    have := h i (by rw [List.length_map]; exact hi)
    rw [List.getElem_map, List.getElem_map] at this
    exact (hf _ _).mp this
  · intro h i hi
    rw [List.getElem_map, List.getElem_map]
    exact (hf _ _).mpr (h i (by rw [List.length_map] at hi; exact hi))
/-- a slip at a row -/
def pslip (qs : List Rat) : D → Bool
  | .int i => !decide (qs.getD (i - 1).toNat 0 < qs.getD i.toNat 0)
  | _ => false
def slipD (qs : List Rat) : D := match (rangeD 1 (qs.length - 1)).find? (pslip qs) with
  | some d => d
  | none => .non
theorem slip_none {qs : List Rat} : (rangeD 1 (qs.length - 1)).find? (pslip qs) = none ↔ RiseL qs := by
  rw [List.find?_eq_none]
  unfold RiseL
  constructor
  · intro h i hi
    have hm : D.int (1 + (i : Nat)) ∈ rangeD 1 (qs.length - 1) := by
      unfold rangeD
      exact List.mem_map.mpr ⟨i, List.mem_range.mpr (by omega), rfl⟩
    have := h _ hm
    simp only [pslip, Bool.not_eq_true', decide_eq_false_iff_not, Decidable.not_not] at this
    rw [show ((1 : Int) + (i : Nat) - 1).toNat = i by omega, show ((1 : Int) + (i : Nat)).toNat = i + 1 by omega, getD_at (by omega), getD_at hi] at this
    exact this
  · intro h d hd
    obtain ⟨i, hi, rfl⟩ := rangeD_mem' hd
    simp only [pslip, Bool.not_eq_true', decide_eq_false_iff_not, Decidable.not_not]
    rw [show ((1 : Int) + (i : Nat) - 1).toNat = i by omega, show ((1 : Int) + (i : Nat)).toNat = i + 1 by omega, getD_at (by omega), getD_at (by omega)]
    exact h i (by omega)
theorem slip_isNon {qs : List Rat} : isNon (slipD qs) = true ↔ RiseL qs := by
  rw [← slip_none]
  unfold slipD
  cases e : (rangeD 1 (qs.length - 1)).find? (pslip qs) with
  | none => simp [isNon]
  | some d =>
    obtain ⟨i, hi, rfl⟩ := rangeD_mem' (List.mem_of_find?_eq_some e)
    simp [isNon]
theorem divInt_lt {a b p : Int} (hp : 0 < p) : Rat.divInt a p < Rat.divInt b p ↔ a < b := by
  rw [Rat.divInt_eq_div, Rat.divInt_eq_div]
  have hp' : (0 : Rat) < (p : Rat) := Rat.intCast_pos.mpr hp
  rw [Rat.div_lt_iff hp', Rat.div_mul_cancel (by intro h; rw [h] at hp'; exact Rat.lt_irrefl hp')]
  exact Rat.intCast_lt_intCast
/-- all neighbours rise -/
def nbs (ts : List Int) : Bool := ((zipD (ts.map D.int) ((ts.drop 1).map D.int)).map fun d => match d with
  | .tup [.int a, .int b] => decide (a < b)
  | _ => false).all id
theorem nbs_iff : ∀ {ts : List Int}, nbs ts = true ↔ RiseL ts
  | [] => by
    constructor
    · intro _ i hi
      simp at hi
    · intro _; rfl
  | [a] => by
    constructor
    · intro _ i hi
      simp at hi
    · intro _; rfl
  | a :: b :: ts => by
    have ih := nbs_iff (ts := b :: ts)
    have e : nbs (a :: b :: ts) = (decide (a < b) && nbs (b :: ts)) := rfl
    rw [e, Bool.and_eq_true, decide_eq_true_eq, ih]
    unfold RiseL
    constructor
    · rintro ⟨h1, h2⟩ i hi
      cases i with
      | zero => exact h1
      | succ i => exact h2 i (by simpa using hi)
    · intro h
      refine ⟨h 0 (by simp), fun i hi => ?_⟩
      exact h (i + 1) (by simpa using hi)
end Sz
namespace Sz
open PySem PySem.Spec L2
theorem fnS_0_0 {c : MS} {μ : Sto} : fnSem 0 c [] μ = finF μ.length (c [] μ) := Eq.trans rfl rfl
theorem fnS_0_1 {c : MS} {μ : Sto} : fnSem 1 c [] μ = finF μ.length (c [none] μ) := Eq.trans rfl rfl
theorem fnS_0_2 {c : MS} {μ : Sto} : fnSem 2 c [] μ = finF μ.length (c [none, none] μ) := Eq.trans rfl rfl
theorem fnS_0_3 {c : MS} {μ : Sto} : fnSem 3 c [] μ = finF μ.length (c [none, none, none] μ) := Eq.trans rfl rfl
theorem fnS_0_4 {c : MS} {μ : Sto} : fnSem 4 c [] μ = finF μ.length (c [none, none, none, none] μ) := Eq.trans rfl rfl
theorem fnS_0_5 {c : MS} {μ : Sto} : fnSem 5 c [] μ = finF μ.length (c [none, none, none, none, none] μ) := Eq.trans rfl rfl
theorem fnS_0_6 {c : MS} {μ : Sto} : fnSem 6 c [] μ = finF μ.length (c [none, none, none, none, none, none] μ) := Eq.trans rfl rfl
theorem fnS_0_7 {c : MS} {μ : Sto} : fnSem 7 c [] μ = finF μ.length (c [none, none, none, none, none, none, none] μ) := Eq.trans rfl rfl
theorem fnS_0_8 {c : MS} {μ : Sto} : fnSem 8 c [] μ = finF μ.length (c [none, none, none, none, none, none, none, none] μ) := Eq.trans rfl rfl
theorem fnS_0_9 {c : MS} {μ : Sto} : fnSem 9 c [] μ = finF μ.length (c [none, none, none, none, none, none, none, none, none] μ) := Eq.trans rfl rfl
theorem fnS_0_10 {c : MS} {μ : Sto} : fnSem 10 c [] μ = finF μ.length (c [none, none, none, none, none, none, none, none, none, none] μ) := Eq.trans rfl rfl
theorem fnS_0_11 {c : MS} {μ : Sto} : fnSem 11 c [] μ = finF μ.length (c [none, none, none, none, none, none, none, none, none, none, none] μ) := Eq.trans rfl rfl
theorem fnS_0_12 {c : MS} {μ : Sto} : fnSem 12 c [] μ = finF μ.length (c [none, none, none, none, none, none, none, none, none, none, none, none] μ) := Eq.trans rfl rfl
theorem fnS_0_13 {c : MS} {μ : Sto} : fnSem 13 c [] μ = finF μ.length (c [none, none, none, none, none, none, none, none, none, none, none, none, none] μ) := Eq.trans rfl rfl
theorem fnS_0_14 {c : MS} {μ : Sto} : fnSem 14 c [] μ = finF μ.length (c [none, none, none, none, none, none, none, none, none, none, none, none, none, none] μ) := Eq.trans rfl rfl
theorem fnS_0_15 {c : MS} {μ : Sto} : fnSem 15 c [] μ = finF μ.length (c [none, none, none, none, none, none, none, none, none, none, none, none, none, none, none] μ) := Eq.trans rfl rfl
theorem fnS_0_16 {c : MS} {μ : Sto} : fnSem 16 c [] μ = finF μ.length (c [none, none, none, none, none, none, none, none, none, none, none, none, none, none, none, none] μ) := Eq.trans rfl rfl
theorem fnS_0_17 {c : MS} {μ : Sto} : fnSem 17 c [] μ = finF μ.length (c [none, none, none, none, none, none, none, none, none, none, none, none, none, none, none, none, none] μ) := Eq.trans rfl rfl
theorem fnS_0_18 {c : MS} {μ : Sto} : fnSem 18 c [] μ = finF μ.length (c [none, none, none, none, none, none, none, none, none, none, none, none, none, none, none, none, none, none] μ) := Eq.trans rfl rfl
theorem fnS_0_19 {c : MS} {μ : Sto} : fnSem 19 c [] μ = finF μ.length (c [none, none, none, none, none, none, none, none, none, none, none, none, none, none, none, none, none, none, none] μ) := Eq.trans rfl rfl
theorem fnS_1_0 {c : MS} {x0 : S} {μ : Sto} : fnSem 1 c [x0] μ = finF μ.length (c [some x0] μ) := Eq.trans rfl rfl
theorem fnS_1_1 {c : MS} {x0 : S} {μ : Sto} : fnSem 2 c [x0] μ = finF μ.length (c [some x0, none] μ) := Eq.trans rfl rfl
theorem fnS_1_2 {c : MS} {x0 : S} {μ : Sto} : fnSem 3 c [x0] μ = finF μ.length (c [some x0, none, none] μ) := Eq.trans rfl rfl
theorem fnS_1_3 {c : MS} {x0 : S} {μ : Sto} : fnSem 4 c [x0] μ = finF μ.length (c [some x0, none, none, none] μ) := Eq.trans rfl rfl
theorem fnS_1_4 {c : MS} {x0 : S} {μ : Sto} : fnSem 5 c [x0] μ = finF μ.length (c [some x0, none, none, none, none] μ) := Eq.trans rfl rfl
theorem fnS_1_5 {c : MS} {x0 : S} {μ : Sto} : fnSem 6 c [x0] μ = finF μ.length (c [some x0, none, none, none, none, none] μ) := Eq.trans rfl rfl
theorem fnS_1_6 {c : MS} {x0 : S} {μ : Sto} : fnSem 7 c [x0] μ = finF μ.length (c [some x0, none, none, none, none, none, none] μ) := Eq.trans rfl rfl
theorem fnS_1_7 {c : MS} {x0 : S} {μ : Sto} : fnSem 8 c [x0] μ = finF μ.length (c [some x0, none, none, none, none, none, none, none] μ) := Eq.trans rfl rfl
theorem fnS_1_8 {c : MS} {x0 : S} {μ : Sto} : fnSem 9 c [x0] μ = finF μ.length (c [some x0, none, none, none, none, none, none, none, none] μ) := Eq.trans rfl rfl
theorem fnS_1_9 {c : MS} {x0 : S} {μ : Sto} : fnSem 10 c [x0] μ = finF μ.length (c [some x0, none, none, none, none, none, none, none, none, none] μ) := Eq.trans rfl rfl
theorem fnS_1_10 {c : MS} {x0 : S} {μ : Sto} : fnSem 11 c [x0] μ = finF μ.length (c [some x0, none, none, none, none, none, none, none, none, none, none] μ) := Eq.trans rfl rfl
theorem fnS_1_11 {c : MS} {x0 : S} {μ : Sto} : fnSem 12 c [x0] μ = finF μ.length (c [some x0, none, none, none, none, none, none, none, none, none, none, none] μ) := Eq.trans rfl rfl
theorem fnS_1_12 {c : MS} {x0 : S} {μ : Sto} : fnSem 13 c [x0] μ = finF μ.length (c [some x0, none, none, none, none, none, none, none, none, none, none, none, none] μ) := Eq.trans rfl rfl
theorem fnS_1_13 {c : MS} {x0 : S} {μ : Sto} : fnSem 14 c [x0] μ = finF μ.length (c [some x0, none, none, none, none, none, none, none, none, none, none, none, none, none] μ) := Eq.trans rfl rfl
theorem fnS_1_14 {c : MS} {x0 : S} {μ : Sto} : fnSem 15 c [x0] μ = finF μ.length (c [some x0, none, none, none, none, none, none, none, none, none, none, none, none, none, none] μ) := Eq.trans rfl rfl
theorem fnS_1_15 {c : MS} {x0 : S} {μ : Sto} : fnSem 16 c [x0] μ = finF μ.length (c [some x0, none, none, none, none, none, none, none, none, none, none, none, none, none, none, none] μ) := Eq.trans rfl rfl
theorem fnS_1_16 {c : MS} {x0 : S} {μ : Sto} : fnSem 17 c [x0] μ = finF μ.length (c [some x0, none, none, none, none, none, none, none, none, none, none, none, none, none, none, none, none] μ) := Eq.trans rfl rfl
theorem fnS_1_17 {c : MS} {x0 : S} {μ : Sto} : fnSem 18 c [x0] μ = finF μ.length (c [some x0, none, none, none, none, none, none, none, none, none, none, none, none, none, none, none, none, none] μ) := Eq.trans rfl rfl
theorem fnS_1_18 {c : MS} {x0 : S} {μ : Sto} : fnSem 19 c [x0] μ = finF μ.length (c [some x0, none, none, none, none, none, none, none, none, none, none, none, none, none, none, none, none, none, none] μ) := Eq.trans rfl rfl
theorem fnS_1_19 {c : MS} {x0 : S} {μ : Sto} : fnSem 20 c [x0] μ = finF μ.length (c [some x0, none, none, none, none, none, none, none, none, none, none, none, none, none, none, none, none, none, none, none] μ) := Eq.trans rfl rfl
theorem fnS_2_0 {c : MS} {x0 x1 : S} {μ : Sto} : fnSem 2 c [x0, x1] μ = finF μ.length (c [some x0, some x1] μ) := Eq.trans rfl rfl
theorem fnS_2_1 {c : MS} {x0 x1 : S} {μ : Sto} : fnSem 3 c [x0, x1] μ = finF μ.length (c [some x0, some x1, none] μ) := Eq.trans rfl rfl
theorem fnS_2_2 {c : MS} {x0 x1 : S} {μ : Sto} : fnSem 4 c [x0, x1] μ = finF μ.length (c [some x0, some x1, none, none] μ) := Eq.trans rfl rfl
theorem fnS_2_3 {c : MS} {x0 x1 : S} {μ : Sto} : fnSem 5 c [x0, x1] μ = finF μ.length (c [some x0, some x1, none, none, none] μ) := Eq.trans rfl rfl
theorem fnS_2_4 {c : MS} {x0 x1 : S} {μ : Sto} : fnSem 6 c [x0, x1] μ = finF μ.length (c [some x0, some x1, none, none, none, none] μ) := Eq.trans rfl rfl
theorem fnS_2_5 {c : MS} {x0 x1 : S} {μ : Sto} : fnSem 7 c [x0, x1] μ = finF μ.length (c [some x0, some x1, none, none, none, none, none] μ) := Eq.trans rfl rfl
theorem fnS_2_6 {c : MS} {x0 x1 : S} {μ : Sto} : fnSem 8 c [x0, x1] μ = finF μ.length (c [some x0, some x1, none, none, none, none, none, none] μ) := Eq.trans rfl rfl
theorem fnS_2_7 {c : MS} {x0 x1 : S} {μ : Sto} : fnSem 9 c [x0, x1] μ = finF μ.length (c [some x0, some x1, none, none, none, none, none, none, none] μ) := Eq.trans rfl rfl
theorem fnS_2_8 {c : MS} {x0 x1 : S} {μ : Sto} : fnSem 10 c [x0, x1] μ = finF μ.length (c [some x0, some x1, none, none, none, none, none, none, none, none] μ) := Eq.trans rfl rfl
theorem fnS_2_9 {c : MS} {x0 x1 : S} {μ : Sto} : fnSem 11 c [x0, x1] μ = finF μ.length (c [some x0, some x1, none, none, none, none, none, none, none, none, none] μ) := Eq.trans rfl rfl
theorem fnS_2_10 {c : MS} {x0 x1 : S} {μ : Sto} : fnSem 12 c [x0, x1] μ = finF μ.length (c [some x0, some x1, none, none, none, none, none, none, none, none, none, none] μ) := Eq.trans rfl rfl
theorem fnS_2_11 {c : MS} {x0 x1 : S} {μ : Sto} : fnSem 13 c [x0, x1] μ = finF μ.length (c [some x0, some x1, none, none, none, none, none, none, none, none, none, none, none] μ) := Eq.trans rfl rfl
theorem fnS_2_12 {c : MS} {x0 x1 : S} {μ : Sto} : fnSem 14 c [x0, x1] μ = finF μ.length (c [some x0, some x1, none, none, none, none, none, none, none, none, none, none, none, none] μ) := Eq.trans rfl rfl
theorem fnS_2_13 {c : MS} {x0 x1 : S} {μ : Sto} : fnSem 15 c [x0, x1] μ = finF μ.length (c [some x0, some x1, none, none, none, none, none, none, none, none, none, none, none, none, none] μ) := Eq.trans rfl rfl
theorem fnS_2_14 {c : MS} {x0 x1 : S} {μ : Sto} : fnSem 16 c [x0, x1] μ = finF μ.length (c [some x0, some x1, none, none, none, none, none, none, none, none, none, none, none, none, none, none] μ) := Eq.trans rfl rfl
theorem fnS_2_15 {c : MS} {x0 x1 : S} {μ : Sto} : fnSem 17 c [x0, x1] μ = finF μ.length (c [some x0, some x1, none, none, none, none, none, none, none, none, none, none, none, none, none, none, none] μ) := Eq.trans rfl rfl
theorem fnS_2_16 {c : MS} {x0 x1 : S} {μ : Sto} : fnSem 18 c [x0, x1] μ = finF μ.length (c [some x0, some x1, none, none, none, none, none, none, none, none, none, none, none, none, none, none, none, none] μ) := Eq.trans rfl rfl
theorem fnS_2_17 {c : MS} {x0 x1 : S} {μ : Sto} : fnSem 19 c [x0, x1] μ = finF μ.length (c [some x0, some x1, none, none, none, none, none, none, none, none, none, none, none, none, none, none, none, none, none] μ) := Eq.trans rfl rfl
theorem fnS_2_18 {c : MS} {x0 x1 : S} {μ : Sto} : fnSem 20 c [x0, x1] μ = finF μ.length (c [some x0, some x1, none, none, none, none, none, none, none, none, none, none, none, none, none, none, none, none, none, none] μ) := Eq.trans rfl rfl
theorem fnS_2_19 {c : MS} {x0 x1 : S} {μ : Sto} : fnSem 21 c [x0, x1] μ = finF μ.length (c [some x0, some x1, none, none, none, none, none, none, none, none, none, none, none, none, none, none, none, none, none, none, none] μ) := Eq.trans rfl rfl
theorem fnS_3_0 {c : MS} {x0 x1 x2 : S} {μ : Sto} : fnSem 3 c [x0, x1, x2] μ = finF μ.length (c [some x0, some x1, some x2] μ) := Eq.trans rfl rfl
theorem fnS_3_1 {c : MS} {x0 x1 x2 : S} {μ : Sto} : fnSem 4 c [x0, x1, x2] μ = finF μ.length (c [some x0, some x1, some x2, none] μ) := Eq.trans rfl rfl
theorem fnS_3_2 {c : MS} {x0 x1 x2 : S} {μ : Sto} : fnSem 5 c [x0, x1, x2] μ = finF μ.length (c [some x0, some x1, some x2, none, none] μ) := Eq.trans rfl rfl
theorem fnS_3_3 {c : MS} {x0 x1 x2 : S} {μ : Sto} : fnSem 6 c [x0, x1, x2] μ = finF μ.length (c [some x0, some x1, some x2, none, none, none] μ) := Eq.trans rfl rfl
theorem fnS_3_4 {c : MS} {x0 x1 x2 : S} {μ : Sto} : fnSem 7 c [x0, x1, x2] μ = finF μ.length (c [some x0, some x1, some x2, none, none, none, none] μ) := Eq.trans rfl rfl
theorem fnS_3_5 {c : MS} {x0 x1 x2 : S} {μ : Sto} : fnSem 8 c [x0, x1, x2] μ = finF μ.length (c [some x0, some x1, some x2, none, none, none, none, none] μ) := Eq.trans rfl rfl
theorem fnS_3_6 {c : MS} {x0 x1 x2 : S} {μ : Sto} : fnSem 9 c [x0, x1, x2] μ = finF μ.length (c [some x0, some x1, some x2, none, none, none, none, none, none] μ) := Eq.trans rfl rfl
theorem fnS_3_7 {c : MS} {x0 x1 x2 : S} {μ : Sto} : fnSem 10 c [x0, x1, x2] μ = finF μ.length (c [some x0, some x1, some x2, none, none, none, none, none, none, none] μ) := Eq.trans rfl rfl
theorem fnS_3_8 {c : MS} {x0 x1 x2 : S} {μ : Sto} : fnSem 11 c [x0, x1, x2] μ = finF μ.length (c [some x0, some x1, some x2, none, none, none, none, none, none, none, none] μ) := Eq.trans rfl rfl
theorem fnS_3_9 {c : MS} {x0 x1 x2 : S} {μ : Sto} : fnSem 12 c [x0, x1, x2] μ = finF μ.length (c [some x0, some x1, some x2, none, none, none, none, none, none, none, none, none] μ) := Eq.trans rfl rfl
theorem fnS_3_10 {c : MS} {x0 x1 x2 : S} {μ : Sto} : fnSem 13 c [x0, x1, x2] μ = finF μ.length (c [some x0, some x1, some x2, none, none, none, none, none, none, none, none, none, none] μ) := Eq.trans rfl rfl
theorem fnS_3_11 {c : MS} {x0 x1 x2 : S} {μ : Sto} : fnSem 14 c [x0, x1, x2] μ = finF μ.length (c [some x0, some x1, some x2, none, none, none, none, none, none, none, none, none, none, none] μ) := Eq.trans rfl rfl
theorem fnS_3_12 {c : MS} {x0 x1 x2 : S} {μ : Sto} : fnSem 15 c [x0, x1, x2] μ = finF μ.length (c [some x0, some x1, some x2, none, none, none, none, none, none, none, none, none, none, none, none] μ) := Eq.trans rfl rfl
theorem fnS_3_13 {c : MS} {x0 x1 x2 : S} {μ : Sto} : fnSem 16 c [x0, x1, x2] μ = finF μ.length (c [some x0, some x1, some x2, none, none, none, none, none, none, none, none, none, none, none, none, none] μ) := Eq.trans rfl rfl
theorem fnS_3_14 {c : MS} {x0 x1 x2 : S} {μ : Sto} : fnSem 17 c [x0, x1, x2] μ = finF μ.length (c [some x0, some x1, some x2, none, none, none, none, none, none, none, none, none, none, none, none, none, none] μ) := Eq.trans rfl rfl
theorem fnS_3_15 {c : MS} {x0 x1 x2 : S} {μ : Sto} : fnSem 18 c [x0, x1, x2] μ = finF μ.length (c [some x0, some x1, some x2, none, none, none, none, none, none, none, none, none, none, none, none, none, none, none] μ) := Eq.trans rfl rfl
theorem fnS_3_16 {c : MS} {x0 x1 x2 : S} {μ : Sto} : fnSem 19 c [x0, x1, x2] μ = finF μ.length (c [some x0, some x1, some x2, none, none, none, none, none, none, none, none, none, none, none, none, none, none, none, none] μ) := Eq.trans rfl rfl
theorem fnS_3_17 {c : MS} {x0 x1 x2 : S} {μ : Sto} : fnSem 20 c [x0, x1, x2] μ = finF μ.length (c [some x0, some x1, some x2, none, none, none, none, none, none, none, none, none, none, none, none, none, none, none, none, none] μ) := Eq.trans rfl rfl
theorem fnS_3_18 {c : MS} {x0 x1 x2 : S} {μ : Sto} : fnSem 21 c [x0, x1, x2] μ = finF μ.length (c [some x0, some x1, some x2, none, none, none, none, none, none, none, none, none, none, none, none, none, none, none, none, none, none] μ) := Eq.trans rfl rfl
theorem fnS_3_19 {c : MS} {x0 x1 x2 : S} {μ : Sto} : fnSem 22 c [x0, x1, x2] μ = finF μ.length (c [some x0, some x1, some x2, none, none, none, none, none, none, none, none, none, none, none, none, none, none, none, none, none, none, none] μ) := Eq.trans rfl rfl
theorem fnS_4_0 {c : MS} {x0 x1 x2 x3 : S} {μ : Sto} : fnSem 4 c [x0, x1, x2, x3] μ = finF μ.length (c [some x0, some x1, some x2, some x3] μ) := Eq.trans rfl rfl
theorem fnS_4_1 {c : MS} {x0 x1 x2 x3 : S} {μ : Sto} : fnSem 5 c [x0, x1, x2, x3] μ = finF μ.length (c [some x0, some x1, some x2, some x3, none] μ) := Eq.trans rfl rfl
theorem fnS_4_2 {c : MS} {x0 x1 x2 x3 : S} {μ : Sto} : fnSem 6 c [x0, x1, x2, x3] μ = finF μ.length (c [some x0, some x1, some x2, some x3, none, none] μ) := Eq.trans rfl rfl
theorem fnS_4_3 {c : MS} {x0 x1 x2 x3 : S} {μ : Sto} : fnSem 7 c [x0, x1, x2, x3] μ = finF μ.length (c [some x0, some x1, some x2, some x3, none, none, none] μ) := Eq.trans rfl rfl
theorem fnS_4_4 {c : MS} {x0 x1 x2 x3 : S} {μ : Sto} : fnSem 8 c [x0, x1, x2, x3] μ = finF μ.length (c [some x0, some x1, some x2, some x3, none, none, none, none] μ) := Eq.trans rfl rfl
theorem fnS_4_5 {c : MS} {x0 x1 x2 x3 : S} {μ : Sto} : fnSem 9 c [x0, x1, x2, x3] μ = finF μ.length (c [some x0, some x1, some x2, some x3, none, none, none, none, none] μ) := Eq.trans rfl rfl
theorem fnS_4_6 {c : MS} {x0 x1 x2 x3 : S} {μ : Sto} : fnSem 10 c [x0, x1, x2, x3] μ = finF μ.length (c [some x0, some x1, some x2, some x3, none, none, none, none, none, none] μ) := Eq.trans rfl rfl
theorem fnS_4_7 {c : MS} {x0 x1 x2 x3 : S} {μ : Sto} : fnSem 11 c [x0, x1, x2, x3] μ = finF μ.length (c [some x0, some x1, some x2, some x3, none, none, none, none, none, none, none] μ) := Eq.trans rfl rfl
theorem fnS_4_8 {c : MS} {x0 x1 x2 x3 : S} {μ : Sto} : fnSem 12 c [x0, x1, x2, x3] μ = finF μ.length (c [some x0, some x1, some x2, some x3, none, none, none, none, none, none, none, none] μ) := Eq.trans rfl rfl
theorem fnS_4_9 {c : MS} {x0 x1 x2 x3 : S} {μ : Sto} : fnSem 13 c [x0, x1, x2, x3] μ = finF μ.length (c [some x0, some x1, some x2, some x3, none, none, none, none, none, none, none, none, none] μ) := Eq.trans rfl rfl
theorem fnS_4_10 {c : MS} {x0 x1 x2 x3 : S} {μ : Sto} : fnSem 14 c [x0, x1, x2, x3] μ = finF μ.length (c [some x0, some x1, some x2, some x3, none, none, none, none, none, none, none, none, none, none] μ) := Eq.trans rfl rfl
theorem fnS_4_11 {c : MS} {x0 x1 x2 x3 : S} {μ : Sto} : fnSem 15 c [x0, x1, x2, x3] μ = finF μ.length (c [some x0, some x1, some x2, some x3, none, none, none, none, none, none, none, none, none, none, none] μ) := Eq.trans rfl rfl
theorem fnS_4_12 {c : MS} {x0 x1 x2 x3 : S} {μ : Sto} : fnSem 16 c [x0, x1, x2, x3] μ = finF μ.length (c [some x0, some x1, some x2, some x3, none, none, none, none, none, none, none, none, none, none, none, none] μ) := Eq.trans rfl rfl
theorem fnS_4_13 {c : MS} {x0 x1 x2 x3 : S} {μ : Sto} : fnSem 17 c [x0, x1, x2, x3] μ = finF μ.length (c [some x0, some x1, some x2, some x3, none, none, none, none, none, none, none, none, none, none, none, none, none] μ) := Eq.trans rfl rfl
theorem fnS_4_14 {c : MS} {x0 x1 x2 x3 : S} {μ : Sto} : fnSem 18 c [x0, x1, x2, x3] μ = finF μ.length (c [some x0, some x1, some x2, some x3, none, none, none, none, none, none, none, none, none, none, none, none, none, none] μ) := Eq.trans rfl rfl
theorem fnS_4_15 {c : MS} {x0 x1 x2 x3 : S} {μ : Sto} : fnSem 19 c [x0, x1, x2, x3] μ = finF μ.length (c [some x0, some x1, some x2, some x3, none, none, none, none, none, none, none, none, none, none, none, none, none, none, none] μ) := Eq.trans rfl rfl
theorem fnS_4_16 {c : MS} {x0 x1 x2 x3 : S} {μ : Sto} : fnSem 20 c [x0, x1, x2, x3] μ = finF μ.length (c [some x0, some x1, some x2, some x3, none, none, none, none, none, none, none, none, none, none, none, none, none, none, none, none] μ) := Eq.trans rfl rfl
theorem fnS_4_17 {c : MS} {x0 x1 x2 x3 : S} {μ : Sto} : fnSem 21 c [x0, x1, x2, x3] μ = finF μ.length (c [some x0, some x1, some x2, some x3, none, none, none, none, none, none, none, none, none, none, none, none, none, none, none, none, none] μ) := Eq.trans rfl rfl
theorem fnS_4_18 {c : MS} {x0 x1 x2 x3 : S} {μ : Sto} : fnSem 22 c [x0, x1, x2, x3] μ = finF μ.length (c [some x0, some x1, some x2, some x3, none, none, none, none, none, none, none, none, none, none, none, none, none, none, none, none, none, none] μ) := Eq.trans rfl rfl
theorem fnS_4_19 {c : MS} {x0 x1 x2 x3 : S} {μ : Sto} : fnSem 23 c [x0, x1, x2, x3] μ = finF μ.length (c [some x0, some x1, some x2, some x3, none, none, none, none, none, none, none, none, none, none, none, none, none, none, none, none, none, none, none] μ) := Eq.trans rfl rfl
theorem fnS_5_0 {c : MS} {x0 x1 x2 x3 x4 : S} {μ : Sto} : fnSem 5 c [x0, x1, x2, x3, x4] μ = finF μ.length (c [some x0, some x1, some x2, some x3, some x4] μ) := Eq.trans rfl rfl
theorem fnS_5_1 {c : MS} {x0 x1 x2 x3 x4 : S} {μ : Sto} : fnSem 6 c [x0, x1, x2, x3, x4] μ = finF μ.length (c [some x0, some x1, some x2, some x3, some x4, none] μ) := Eq.trans rfl rfl
theorem fnS_5_2 {c : MS} {x0 x1 x2 x3 x4 : S} {μ : Sto} : fnSem 7 c [x0, x1, x2, x3, x4] μ = finF μ.length (c [some x0, some x1, some x2, some x3, some x4, none, none] μ) := Eq.trans rfl rfl
theorem fnS_5_3 {c : MS} {x0 x1 x2 x3 x4 : S} {μ : Sto} : fnSem 8 c [x0, x1, x2, x3, x4] μ = finF μ.length (c [some x0, some x1, some x2, some x3, some x4, none, none, none] μ) := Eq.trans rfl rfl
theorem fnS_5_4 {c : MS} {x0 x1 x2 x3 x4 : S} {μ : Sto} : fnSem 9 c [x0, x1, x2, x3, x4] μ = finF μ.length (c [some x0, some x1, some x2, some x3, some x4, none, none, none, none] μ) := Eq.trans rfl rfl
theorem fnS_5_5 {c : MS} {x0 x1 x2 x3 x4 : S} {μ : Sto} : fnSem 10 c [x0, x1, x2, x3, x4] μ = finF μ.length (c [some x0, some x1, some x2, some x3, some x4, none, none, none, none, none] μ) := Eq.trans rfl rfl
theorem fnS_5_6 {c : MS} {x0 x1 x2 x3 x4 : S} {μ : Sto} : fnSem 11 c [x0, x1, x2, x3, x4] μ = finF μ.length (c [some x0, some x1, some x2, some x3, some x4, none, none, none, none, none, none] μ) := Eq.trans rfl rfl
theorem fnS_5_7 {c : MS} {x0 x1 x2 x3 x4 : S} {μ : Sto} : fnSem 12 c [x0, x1, x2, x3, x4] μ = finF μ.length (c [some x0, some x1, some x2, some x3, some x4, none, none, none, none, none, none, none] μ) := Eq.trans rfl rfl
theorem fnS_5_8 {c : MS} {x0 x1 x2 x3 x4 : S} {μ : Sto} : fnSem 13 c [x0, x1, x2, x3, x4] μ = finF μ.length (c [some x0, some x1, some x2, some x3, some x4, none, none, none, none, none, none, none, none] μ) := Eq.trans rfl rfl
theorem fnS_5_9 {c : MS} {x0 x1 x2 x3 x4 : S} {μ : Sto} : fnSem 14 c [x0, x1, x2, x3, x4] μ = finF μ.length (c [some x0, some x1, some x2, some x3, some x4, none, none, none, none, none, none, none, none, none] μ) := Eq.trans rfl rfl
theorem fnS_5_10 {c : MS} {x0 x1 x2 x3 x4 : S} {μ : Sto} : fnSem 15 c [x0, x1, x2, x3, x4] μ = finF μ.length (c [some x0, some x1, some x2, some x3, some x4, none, none, none, none, none, none, none, none, none, none] μ) := Eq.trans rfl rfl
theorem fnS_5_11 {c : MS} {x0 x1 x2 x3 x4 : S} {μ : Sto} : fnSem 16 c [x0, x1, x2, x3, x4] μ = finF μ.length (c [some x0, some x1, some x2, some x3, some x4, none, none, none, none, none, none, none, none, none, none, none] μ) := Eq.trans rfl rfl
theorem fnS_5_12 {c : MS} {x0 x1 x2 x3 x4 : S} {μ : Sto} : fnSem 17 c [x0, x1, x2, x3, x4] μ = finF μ.length (c [some x0, some x1, some x2, some x3, some x4, none, none, none, none, none, none, none, none, none, none, none, none] μ) := Eq.trans rfl rfl
theorem fnS_5_13 {c : MS} {x0 x1 x2 x3 x4 : S} {μ : Sto} : fnSem 18 c [x0, x1, x2, x3, x4] μ = finF μ.length (c [some x0, some x1, some x2, some x3, some x4, none, none, none, none, none, none, none, none, none, none, none, none, none] μ) := Eq.trans rfl rfl
theorem fnS_5_14 {c : MS} {x0 x1 x2 x3 x4 : S} {μ : Sto} : fnSem 19 c [x0, x1, x2, x3, x4] μ = finF μ.length (c [some x0, some x1, some x2, some x3, some x4, none, none, none, none, none, none, none, none, none, none, none, none, none, none] μ) := Eq.trans rfl rfl
theorem fnS_5_15 {c : MS} {x0 x1 x2 x3 x4 : S} {μ : Sto} : fnSem 20 c [x0, x1, x2, x3, x4] μ = finF μ.length (c [some x0, some x1, some x2, some x3, some x4, none, none, none, none, none, none, none, none, none, none, none, none, none, none, none] μ) := Eq.trans rfl rfl
theorem fnS_5_16 {c : MS} {x0 x1 x2 x3 x4 : S} {μ : Sto} : fnSem 21 c [x0, x1, x2, x3, x4] μ = finF μ.length (c [some x0, some x1, some x2, some x3, some x4, none, none, none, none, none, none, none, none, none, none, none, none, none, none, none, none] μ) := Eq.trans rfl rfl
theorem fnS_5_17 {c : MS} {x0 x1 x2 x3 x4 : S} {μ : Sto} : fnSem 22 c [x0, x1, x2, x3, x4] μ = finF μ.length (c [some x0, some x1, some x2, some x3, some x4, none, none, none, none, none, none, none, none, none, none, none, none, none, none, none, none, none] μ) := Eq.trans rfl rfl
theorem fnS_5_18 {c : MS} {x0 x1 x2 x3 x4 : S} {μ : Sto} : fnSem 23 c [x0, x1, x2, x3, x4] μ = finF μ.length (c [some x0, some x1, some x2, some x3, some x4, none, none, none, none, none, none, none, none, none, none, none, none, none, none, none, none, none, none] μ) := Eq.trans rfl rfl
theorem fnS_5_19 {c : MS} {x0 x1 x2 x3 x4 : S} {μ : Sto} : fnSem 24 c [x0, x1, x2, x3, x4] μ = finF μ.length (c [some x0, some x1, some x2, some x3, some x4, none, none, none, none, none, none, none, none, none, none, none, none, none, none, none, none, none, none, none] μ) := Eq.trans rfl rfl
theorem fnS_6_0 {c : MS} {x0 x1 x2 x3 x4 x5 : S} {μ : Sto} : fnSem 6 c [x0, x1, x2, x3, x4, x5] μ = finF μ.length (c [some x0, some x1, some x2, some x3, some x4, some x5] μ) := Eq.trans rfl rfl
theorem fnS_6_1 {c : MS} {x0 x1 x2 x3 x4 x5 : S} {μ : Sto} : fnSem 7 c [x0, x1, x2, x3, x4, x5] μ = finF μ.length (c [some x0, some x1, some x2, some x3, some x4, some x5, none] μ) := Eq.trans rfl rfl
theorem fnS_6_2 {c : MS} {x0 x1 x2 x3 x4 x5 : S} {μ : Sto} : fnSem 8 c [x0, x1, x2, x3, x4, x5] μ = finF μ.length (c [some x0, some x1, some x2, some x3, some x4, some x5, none, none] μ) := Eq.trans rfl rfl
theorem fnS_6_3 {c : MS} {x0 x1 x2 x3 x4 x5 : S} {μ : Sto} : fnSem 9 c [x0, x1, x2, x3, x4, x5] μ = finF μ.length (c [some x0, some x1, some x2, some x3, some x4, some x5, none, none, none] μ) := Eq.trans rfl rfl
theorem fnS_6_4 {c : MS} {x0 x1 x2 x3 x4 x5 : S} {μ : Sto} : fnSem 10 c [x0, x1, x2, x3, x4, x5] μ = finF μ.length (c [some x0, some x1, some x2, some x3, some x4, some x5, none, none, none, none] μ) := Eq.trans rfl rfl
theorem fnS_6_5 {c : MS} {x0 x1 x2 x3 x4 x5 : S} {μ : Sto} : fnSem 11 c [x0, x1, x2, x3, x4, x5] μ = finF μ.length (c [some x0, some x1, some x2, some x3, some x4, some x5, none, none, none, none, none] μ) := Eq.trans rfl rfl
theorem fnS_6_6 {c : MS} {x0 x1 x2 x3 x4 x5 : S} {μ : Sto} : fnSem 12 c [x0, x1, x2, x3, x4, x5] μ = finF μ.length (c [some x0, some x1, some x2, some x3, some x4, some x5, none, none, none, none, none, none] μ) := Eq.trans rfl rfl
theorem fnS_6_7 {c : MS} {x0 x1 x2 x3 x4 x5 : S} {μ : Sto} : fnSem 13 c [x0, x1, x2, x3, x4, x5] μ = finF μ.length (c [some x0, some x1, some x2, some x3, some x4, some x5, none, none, none, none, none, none, none] μ) := Eq.trans rfl rfl
theorem fnS_6_8 {c : MS} {x0 x1 x2 x3 x4 x5 : S} {μ : Sto} : fnSem 14 c [x0, x1, x2, x3, x4, x5] μ = finF μ.length (c [some x0, some x1, some x2, some x3, some x4, some x5, none, none, none, none, none, none, none, none] μ) := Eq.trans rfl rfl
theorem fnS_6_9 {c : MS} {x0 x1 x2 x3 x4 x5 : S} {μ : Sto} : fnSem 15 c [x0, x1, x2, x3, x4, x5] μ = finF μ.length (c [some x0, some x1, some x2, some x3, some x4, some x5, none, none, none, none, none, none, none, none, none] μ) := Eq.trans rfl rfl
theorem fnS_6_10 {c : MS} {x0 x1 x2 x3 x4 x5 : S} {μ : Sto} : fnSem 16 c [x0, x1, x2, x3, x4, x5] μ = finF μ.length (c [some x0, some x1, some x2, some x3, some x4, some x5, none, none, none, none, none, none, none, none, none, none] μ) := Eq.trans rfl rfl
theorem fnS_6_11 {c : MS} {x0 x1 x2 x3 x4 x5 : S} {μ : Sto} : fnSem 17 c [x0, x1, x2, x3, x4, x5] μ = finF μ.length (c [some x0, some x1, some x2, some x3, some x4, some x5, none, none, none, none, none, none, none, none, none, none, none] μ) := Eq.trans rfl rfl
theorem fnS_6_12 {c : MS} {x0 x1 x2 x3 x4 x5 : S} {μ : Sto} : fnSem 18 c [x0, x1, x2, x3, x4, x5] μ = finF μ.length (c [some x0, some x1, some x2, some x3, some x4, some x5, none, none, none, none, none, none, none, none, none, none, none, none] μ) := Eq.trans rfl rfl
theorem fnS_6_13 {c : MS} {x0 x1 x2 x3 x4 x5 : S} {μ : Sto} : fnSem 19 c [x0, x1, x2, x3, x4, x5] μ = finF μ.length (c [some x0, some x1, some x2, some x3, some x4, some x5, none, none, none, none, none, none, none, none, none, none, none, none, none] μ) := Eq.trans rfl rfl
theorem fnS_6_14 {c : MS} {x0 x1 x2 x3 x4 x5 : S} {μ : Sto} : fnSem 20 c [x0, x1, x2, x3, x4, x5] μ = finF μ.length (c [some x0, some x1, some x2, some x3, some x4, some x5, none, none, none, none, none, none, none, none, none, none, none, none, none, none] μ) := Eq.trans rfl rfl
theorem fnS_6_15 {c : MS} {x0 x1 x2 x3 x4 x5 : S} {μ : Sto} : fnSem 21 c [x0, x1, x2, x3, x4, x5] μ = finF μ.length (c [some x0, some x1, some x2, some x3, some x4, some x5, none, none, none, none, none, none, none, none, none, none, none, none, none, none, none] μ) := Eq.trans rfl rfl
theorem fnS_6_16 {c : MS} {x0 x1 x2 x3 x4 x5 : S} {μ : Sto} : fnSem 22 c [x0, x1, x2, x3, x4, x5] μ = finF μ.length (c [some x0, some x1, some x2, some x3, some x4, some x5, none, none, none, none, none, none, none, none, none, none, none, none, none, none, none, none] μ) := Eq.trans rfl rfl
theorem fnS_6_17 {c : MS} {x0 x1 x2 x3 x4 x5 : S} {μ : Sto} : fnSem 23 c [x0, x1, x2, x3, x4, x5] μ = finF μ.length (c [some x0, some x1, some x2, some x3, some x4, some x5, none, none, none, none, none, none, none, none, none, none, none, none, none, none, none, none, none] μ) := Eq.trans rfl rfl
theorem fnS_6_18 {c : MS} {x0 x1 x2 x3 x4 x5 : S} {μ : Sto} : fnSem 24 c [x0, x1, x2, x3, x4, x5] μ = finF μ.length (c [some x0, some x1, some x2, some x3, some x4, some x5, none, none, none, none, none, none, none, none, none, none, none, none, none, none, none, none, none, none] μ) := Eq.trans rfl rfl
theorem fnS_6_19 {c : MS} {x0 x1 x2 x3 x4 x5 : S} {μ : Sto} : fnSem 25 c [x0, x1, x2, x3, x4, x5] μ = finF μ.length (c [some x0, some x1, some x2, some x3, some x4, some x5, none, none, none, none, none, none, none, none, none, none, none, none, none, none, none, none, none, none, none] μ) := Eq.trans rfl rfl
theorem fnS_7_0 {c : MS} {x0 x1 x2 x3 x4 x5 x6 : S} {μ : Sto} : fnSem 7 c [x0, x1, x2, x3, x4, x5, x6] μ = finF μ.length (c [some x0, some x1, some x2, some x3, some x4, some x5, some x6] μ) := Eq.trans rfl rfl
theorem fnS_7_1 {c : MS} {x0 x1 x2 x3 x4 x5 x6 : S} {μ : Sto} : fnSem 8 c [x0, x1, x2, x3, x4, x5, x6] μ = finF μ.length (c [some x0, some x1, some x2, some x3, some x4, some x5, some x6, none] μ) := Eq.trans rfl rfl
theorem fnS_7_2 {c : MS} {x0 x1 x2 x3 x4 x5 x6 : S} {μ : Sto} : fnSem 9 c [x0, x1, x2, x3, x4, x5, x6] μ = finF μ.length (c [some x0, some x1, some x2, some x3, some x4, some x5, some x6, none, none] μ) := Eq.trans rfl rfl
theorem fnS_7_3 {c : MS} {x0 x1 x2 x3 x4 x5 x6 : S} {μ : Sto} : fnSem 10 c [x0, x1, x2, x3, x4, x5, x6] μ = finF μ.length (c [some x0, some x1, some x2, some x3, some x4, some x5, some x6, none, none, none] μ) := Eq.trans rfl rfl
theorem fnS_7_4 {c : MS} {x0 x1 x2 x3 x4 x5 x6 : S} {μ : Sto} : fnSem 11 c [x0, x1, x2, x3, x4, x5, x6] μ = finF μ.length (c [some x0, some x1, some x2, some x3, some x4, some x5, some x6, none, none, none, none] μ) := Eq.trans rfl rfl
theorem fnS_7_5 {c : MS} {x0 x1 x2 x3 x4 x5 x6 : S} {μ : Sto} : fnSem 12 c [x0, x1, x2, x3, x4, x5, x6] μ = finF μ.length (c [some x0, some x1, some x2, some x3, some x4, some x5, some x6, none, none, none, none, none] μ) := Eq.trans rfl rfl
theorem fnS_7_6 {c : MS} {x0 x1 x2 x3 x4 x5 x6 : S} {μ : Sto} : fnSem 13 c [x0, x1, x2, x3, x4, x5, x6] μ = finF μ.length (c [some x0, some x1, some x2, some x3, some x4, some x5, some x6, none, none, none, none, none, none] μ) := Eq.trans rfl rfl
theorem fnS_7_7 {c : MS} {x0 x1 x2 x3 x4 x5 x6 : S} {μ : Sto} : fnSem 14 c [x0, x1, x2, x3, x4, x5, x6] μ = finF μ.length (c [some x0, some x1, some x2, some x3, some x4, some x5, some x6, none, none, none, none, none, none, none] μ) := Eq.trans rfl rfl
theorem fnS_7_8 {c : MS} {x0 x1 x2 x3 x4 x5 x6 : S} {μ : Sto} : fnSem 15 c [x0, x1, x2, x3, x4, x5, x6] μ = finF μ.length (c [some x0, some x1, some x2, some x3, some x4, some x5, some x6, none, none, none, none, none, none, none, none] μ) := Eq.trans rfl rfl
theorem fnS_7_9 {c : MS} {x0 x1 x2 x3 x4 x5 x6 : S} {μ : Sto} : fnSem 16 c [x0, x1, x2, x3, x4, x5, x6] μ = finF μ.length (c [some x0, some x1, some x2, some x3, some x4, some x5, some x6, none, none, none, none, none, none, none, none, none] μ) := Eq.trans rfl rfl
theorem fnS_7_10 {c : MS} {x0 x1 x2 x3 x4 x5 x6 : S} {μ : Sto} : fnSem 17 c [x0, x1, x2, x3, x4, x5, x6] μ = finF μ.length (c [some x0, some x1, some x2, some x3, some x4, some x5, some x6, none, none, none, none, none, none, none, none, none, none] μ) := Eq.trans rfl rfl
theorem fnS_7_11 {c : MS} {x0 x1 x2 x3 x4 x5 x6 : S} {μ : Sto} : fnSem 18 c [x0, x1, x2, x3, x4, x5, x6] μ = finF μ.length (c [some x0, some x1, some x2, some x3, some x4, some x5, some x6, none, none, none, none, none, none, none, none, none, none, none] μ) := Eq.trans rfl rfl
theorem fnS_7_12 {c : MS} {x0 x1 x2 x3 x4 x5 x6 : S} {μ : Sto} : fnSem 19 c [x0, x1, x2, x3, x4, x5, x6] μ = finF μ.length (c [some x0, some x1, some x2, some x3, some x4, some x5, some x6, none, none, none, none, none, none, none, none, none, none, none, none] μ) := Eq.trans rfl rfl
theorem fnS_7_13 {c : MS} {x0 x1 x2 x3 x4 x5 x6 : S} {μ : Sto} : fnSem 20 c [x0, x1, x2, x3, x4, x5, x6] μ = finF μ.length (c [some x0, some x1, some x2, some x3, some x4, some x5, some x6, none, none, none, none, none, none, none, none, none, none, none, none, none] μ) := Eq.trans rfl rfl
theorem fnS_7_14 {c : MS} {x0 x1 x2 x3 x4 x5 x6 : S} {μ : Sto} : fnSem 21 c [x0, x1, x2, x3, x4, x5, x6] μ = finF μ.length (c [some x0, some x1, some x2, some x3, some x4, some x5, some x6, none, none, none, none, none, none, none, none, none, none, none, none, none, none] μ) := Eq.trans rfl rfl
theorem fnS_7_15 {c : MS} {x0 x1 x2 x3 x4 x5 x6 : S} {μ : Sto} : fnSem 22 c [x0, x1, x2, x3, x4, x5, x6] μ = finF μ.length (c [some x0, some x1, some x2, some x3, some x4, some x5, some x6, none, none, none, none, none, none, none, none, none, none, none, none, none, none, none] μ) := Eq.trans rfl rfl
theorem fnS_7_16 {c : MS} {x0 x1 x2 x3 x4 x5 x6 : S} {μ : Sto} : fnSem 23 c [x0, x1, x2, x3, x4, x5, x6] μ = finF μ.length (c [some x0, some x1, some x2, some x3, some x4, some x5, some x6, none, none, none, none, none, none, none, none, none, none, none, none, none, none, none, none] μ) := Eq.trans rfl rfl
theorem fnS_7_17 {c : MS} {x0 x1 x2 x3 x4 x5 x6 : S} {μ : Sto} : fnSem 24 c [x0, x1, x2, x3, x4, x5, x6] μ = finF μ.length (c [some x0, some x1, some x2, some x3, some x4, some x5, some x6, none, none, none, none, none, none, none, none, none, none, none, none, none, none, none, none, none] μ) := Eq.trans rfl rfl
theorem fnS_7_18 {c : MS} {x0 x1 x2 x3 x4 x5 x6 : S} {μ : Sto} : fnSem 25 c [x0, x1, x2, x3, x4, x5, x6] μ = finF μ.length (c [some x0, some x1, some x2, some x3, some x4, some x5, some x6, none, none, none, none, none, none, none, none, none, none, none, none, none, none, none, none, none, none] μ) := Eq.trans rfl rfl
theorem fnS_7_19 {c : MS} {x0 x1 x2 x3 x4 x5 x6 : S} {μ : Sto} : fnSem 26 c [x0, x1, x2, x3, x4, x5, x6] μ = finF μ.length (c [some x0, some x1, some x2, some x3, some x4, some x5, some x6, none, none, none, none, none, none, none, none, none, none, none, none, none, none, none, none, none, none, none] μ) := Eq.trans rfl rfl
end Sz
namespace Sz
open PySem PySem.Spec L2
theorem zipD_mem {ds es : List D} {x : D} (h : x ∈ zipD ds es) : ∃ d ∈ ds, ∃ e ∈ es, x = .tup [d, e] := by
  obtain ⟨i, hi⟩ := List.getElem?_of_mem h
  obtain ⟨d, e, h1, h2, h3⟩ := zipD_get hi
  exact ⟨d, List.mem_of_getElem? h1, e, List.mem_of_getElem? h2, h3⟩
theorem bls_map {α : Type} {f : α → Bool} : ∀ {l : List α}, bls? (l.map fun x => .bl (f x)) = some (l.map f)
  | [] => rfl
  | a :: l => by
    show (bls? (l.map fun x => .bl (f x))).map (f a :: ·) = _
    rw [bls_map]
    rfl
theorem all_map {α : Type} {f : α → Bool} {l : List α} : bAll [.lst (l.map fun x => .bl (f x))] = some (.val (.bl ((l.map f).all id))) := by
  show (bls? _).map _ = _
  rw [bls_map]
  rfl
/-- all but one -/
def less1 {α : Type} (l : List α) (n : Nat) : List α := l.take n ++ l.drop (n + 1)
theorem less1_map {α β : Type} {f : α → β} {l : List α} {n : Nat} : less1 (l.map f) n = (less1 l n).map f := by
  unfold less1
  rw [List.map_append, List.map_take, List.map_drop]
theorem less1_len {α : Type} {l : List α} {n : Nat} (h : n < l.length) : (less1 l n).length + 1 = l.length := by
  unfold less1
  rw [List.length_append, List.length_take, List.length_drop]
  omega
theorem sl_to {ds : List D} {n : Nat} : dSl (.tup ds) none (some (n : Int)) = some (.val (.tup (ds.take n))) := by
  show some (S.val (.tup (cutD ds none (some (n : Int))))) = _
  rw [cutD_to]
theorem sl_from {ds : List D} {n : Nat} {i : Int} (hi : i = (n : Int)) : dSl (.tup ds) (some i) none = some (.val (.tup (ds.drop n))) := by
  subst hi
  show some (S.val (.tup (cutD ds (some (n : Int)) none))) = _
  rw [cutD_from]
def slK2 (μ : Sto) : Option S → Option R
  | some s => some (.ok s, μ)
  | none => none
theorem slK_some {μ : Sto} {lo hi : Option Int} {d : D} : slK μ lo hi (some d) = slK2 μ (dSl d lo hi) := by
  unfold slK
  dsimp only
  unfold slK2
  cases dSl d lo hi <;> rfl
theorem slK2_some {μ : Sto} {s : S} : slK2 μ (some s) = some (.ok s, μ) := Eq.trans rfl rfl
theorem mSl_ap {a : ME} {lo hi : MO} {ρ : En} {μ : Sto} : mSl a lo hi ρ μ = andThen (a ρ μ) fun s μ1 => andThen (lo ρ μ1) fun l μ2 => andThen (hi ρ μ2) fun u μ3 => slK μ3 l u (vw μ3 (rt s)) := Eq.trans rfl rfl
theorem oNone_ap {ρ : En} {μ : Sto} : oNone ρ μ = some (.ok none, μ) := Eq.trans rfl rfl
theorem oSome_ap {m : ME} {ρ : En} {μ : Sto} : oSome m ρ μ = andThen (m ρ μ) fun s μ1 => intK μ1 (vw μ1 s) := Eq.trans rfl rfl
theorem intK_some {μ : Sto} {i : Int} : intK μ (some (.int i)) = some (.ok (some i), μ) := Eq.trans rfl rfl
theorem add_tt {a b : List D} (h : a.length + b.length ≤ 1000) : dAdd (.tup a) (.tup b) = some (.val (.tup (a ++ b))) := by
  show (if a.length + b.length ≤ sizeLine then _ else _) = _
  exact if_pos (Nat.le_trans h (by decide))
end Sz
namespace Sz
open PySem PySem.Spec L2
theorem mOwnE_ap {m : ME} {ρ : En} {μ : Sto} : mOwnE m ρ μ = andThen (m ρ μ) fun s μ1 => some (.ok (own true s μ1).1, (own true s μ1).2) := Eq.trans rfl rfl
end Sz

set_option Elab.async false
set_option linter.all false
set_option maxRecDepth 100000
set_option maxHeartbeats 4000000
/-! Sz U: own methods behind built-ins; lists' built-ins. -/
namespace Sz
open PySem PySem.Spec PyProof.Rows L2

/-! ### what an own method of one object tells, whatever else there is -/
open Classical in
noncomputable def ownSem (fi : FnI) (x : D) : Option D := if h : ∃ d : D, ∀ μ : Sto, fi.sem [.val x] μ = some (.ok (.val d), μ) then some (choose h) else none
theorem ownSem_eq {fi : FnI} {x d : D} (h : ∀ μ : Sto, fi.sem [.val x] μ = some (.ok (.val d), μ)) : ownSem fi x = some d := by
  unfold ownSem
  have hx : ∃ d : D, ∀ μ : Sto, fi.sem [.val x] μ = some (.ok (.val d), μ) := ⟨d, h⟩
  rw [dif_pos hx]
  have h2 := Classical.choose_spec hx []
  rw [h []] at h2
  injection h2 with h2
  injection h2 with h2 _
  injection h2 with h2
  injection h2 with h2
  rw [h2]
theorem ownSem_some {fi : FnI} {x d : D} (h : ownSem fi x = some d) : ∀ μ : Sto, fi.sem [.val x] μ = some (.ok (.val d), μ) := by
  unfold ownSem at h
  split at h
  · rename_i hx
    cases h
    exact Classical.choose_spec hx
  · cases h
section
variable {g : G} {P : Program} {w : World} {mg : Str → Option Value} {base : Heap} {k : Nat} {N : List Str} {sc : Scope} {own cm gb gc : Bool} {X : Cx} {W : WX}
theorem own_run {fi : FnI} {f : Addr} {j : Nat} {sh : List (Nat × List Str)} (c : Ct g P w mg base k N sc own cm gb X W) (FC : FnC gc g P w mg base fi j f sh) (hsh : sh.contains (1, []) = true) (hps : fi.ps.length = 1) {A : Around} (room : Room j A) (gd : gc = true → A.guards = some [])
    {F : Hp} {as : List Addr} {μ : Sto} {H : Hp} {σ : L2.St} {pins : List (Addr × Obj)} {st : Shared} {x d : D} {a : Addr} (hs : ∀ ν : Sto, fi.sem [.val x] ν = some (.ok (.val d), ν)) (sr : SR g F as μ H) (rx : Rep g F x (.ref a)) (I : Inv X pins σ H st)
    (en : Env0 X.prog X.w X.K X.mg X.base A X.stack st H) :
    wpAny (model X.prog X.w) A (call (.ref f) [.ref a]) (fun v s' => ∃ F' as' w H', Ext F as F' as' ∧ SR g F' as' μ H' ∧ Rep g F' d w ∧ RelV w v ∧ Inv X pins σ H' s') X.xe st := by
  obtain ⟨fd, dvs, ok, bnd, rd⟩ := FC.ok
  obtain ⟨ds, rds, hb⟩ := (bnd (1, []) (List.contains_iff_mem.mp hsh)).to
  obtain ⟨b, e1, e2⟩ := hb st [.ref a] [] (c.hK ▸ I.kIn) rfl rfl
  have eb : b = [Value.ref a] := by
    match hp : fi.ps, hps with
    | [p], _ =>
      rw [hp] at e1
      exact (Option.some.inj e1).symm
  subst eb
  have en' : Env0 P w g.K mg base A X.stack st H := by
    have := en
    rw [c.hP, c.hw, c.hK, c.hmg, c.hb] at this
    exact this
  have ask : spOf g fi.ps.length fi.sem [V.ref a] H (fun w H' => ∃ F' as', Ext F as F' as' ∧ SR g F' as' μ H' ∧ Rep g F' d w) (fun _ _ _ => False) := by
    refine ⟨hps.symm, F, as, [.val x], μ, _, μ, sr, .cons rx .nil, hs μ, fun F' as' v H' e sr' ra => ?_⟩
    exact ⟨F', as', e, sr', ra⟩
  rw [c.hP, c.hw]
  refine wpAny_call (codeAny_mono (ok.go A X.stack st H ⟨[.ref a], []⟩ [.ref a] [.ref a] _ _ room gd en' e2 (.cons rfl .nil) ask) fun r s' told => ?_)
  cases r with
  | error e =>
    obtain ⟨_, _, _, _, _, _, _, _, _, _, _, _, z⟩ := told
    exact z.elim
  | ok fl =>
    cases fl with
    | ret u =>
      have told' : CE X.stack X.prog X.w H st (fun w H' => ∃ F' as', Ext F as F' as' ∧ SR g F' as' μ H' ∧ Rep g F' d w) u s' := by
        rw [c.hP, c.hw]
        exact told
      obtain ⟨v, H', I', rv, F', as', e, sr', ra⟩ := I.after told'
      exact ⟨F', as', v, H', e, sr', ra, rv, I'⟩
    | next => exact False.elim told
    | brk => exact False.elim told
    | cont => exact False.elim told
/-- an own method of one class each, by its name -/
structure SpC (gb : Bool) (g : G) (P : Program) (w : World) (mg : Str → Option Value) (base : Heap) (m : Str) (sm : Nat → Option FnI) (k : Nat) : Prop where
  ok : ∀ c fi, sm c = some fi → ∃ f, FnC gb g P w mg base fi k f [(1, [])] ∧ PySem.W.findIn g.K (.ref (g.cad c)) m = some (some (.ref f)) ∧ PySem.W.isFn g.K (.ref f) = true ∧ fi.ps.length = 1
/-- len(x) -/
def lenK : Option D → Option S
  | some (.int n) => if 0 ≤ n ∧ n < 2 ^ 63 then some (.val (.int n)) else none
  | _ => none
noncomputable def bLenO (sm : Nat → Option FnI) : List D → Option S
  | [.obj c fs] => (match sm c with
    | some fi => lenK (ownSem fi (.obj c fs))
    | none => none)
  | xs => bLen xs
theorem Ct.lenO {sm : Nat → Option FnI} {j : Nat} (c : Ct g P w mg base k N sc own true gb X W) (E : SpC gc g P w mg base "__len__" sm j) (hgd : leB gc gb = true) (hj : Nat.ble (j + 1) k = true) : CallOk g X (.builtin "len") (bLenO sm) := by
  intro xs s F as μ H vs Q e sr hx kk
  unfold bLenO at e
  split at e
  · rename_i ci fs
    split at e
    · rename_i fi hfi
      obtain ⟨v, rfl, hv⟩ := vrs1 hx
      unfold lenK at e
      split at e
      · rename_i n hn
        split at e
        · rename_i hz
          cases e
          have hs := ownSem_some hn
          obtain ⟨f, FC, hfind, hfn, hps⟩ := E.ok ci fi hfi
          obtain ⟨a, dx, us, rfl, ha, _, _⟩ := vr_obj sr hv
          have rx : Rep g F (.obj ci fs) (.ref a) := by
            rcases hv with ⟨_, _, _, q, _⟩ | hv
            · cases q
            · exact hv
          intro pins st σ vs' I rv
          obtain ⟨u, rfl, ru⟩ := rv.one
          cases (show u = Value.ref a from ru)
          obtain ⟨mA, J, _⟩ := ins_get I.hok ha
          obtain ⟨od, J, _⟩ := J.look
          obtain ⟨m, hFr⟩ := I.fr
          have hr := (c.room rfl).mono (Nat.le_of_ble_eq_true hj)
          refine PySem.W.len_K hFr I.ok.mod.kin J (c.hK ▸ hfind) (c.hK ▸ hfn) ?_
          refine wpAny_mono (own_run c FC rfl hps hr.in1 (fun e => c.gd (leB_ok hgd e)) hs sr rx I I.env0.in1) (fun v s' told => ?_) fun _ _ z => z
          obtain ⟨F', as', w', H', x', sr', rw', rel, I'⟩ := told
          unfold Rep at rw'
          subst rw'
          obtain ⟨t, rfl⟩ := (show ∃ t, v = Value.int n t from rel)
          exact ⟨hz, .int n, H', I'.tok _, ⟨_, rfl⟩, kk F' as' _ H' x' sr' ra_int⟩
        · cases e
      · cases e
    · cases e
  · exact co_len c.K xs s F as μ H vs Q e sr hx kk

/-! ### lists of whole numbers -/
def maxK : Option (List Int) → Option S
  | some (n :: ns) => some (.val (.int (ns.foldl max n)))
  | _ => none
def minK : Option (List Int) → Option S
  | some (n :: ns) => some (.val (.int (ns.foldl min n)))
  | _ => none
def bMaxL : List D → Option S
  | [.lst ds] => maxK (ints? ds)
  | _ => none
def bMinL : List D → Option S
  | [.lst ds] => minK (ints? ds)
  | _ => none
theorem foldl_max_spec : ∀ (ns : List Int) (n : Int), (ns.foldl max n ∈ n :: ns) ∧ ∀ y ∈ n :: ns, y ≤ ns.foldl max n
  | [], n => ⟨List.mem_cons_self, fun y hy => by rw [List.mem_singleton] at hy; rw [hy]; exact Int.le_refl _⟩
  | m :: ns, n => by
    obtain ⟨h1, h2⟩ := foldl_max_spec ns (max n m)
    rw [List.foldl_cons]
    refine ⟨?_, fun y hy => ?_⟩
    · rcases List.mem_cons.mp h1 with e | e
      · rw [e]
        by_cases q : n ≤ m
        · rw [Int.max_eq_right q]; simp
        · rw [Int.max_eq_left (by omega)]; simp
      · simp [e]
    · have h3 := h2 (max n m) List.mem_cons_self
      rcases List.mem_cons.mp hy with e | e
      · rw [e]; omega
      · rcases List.mem_cons.mp e with e | e
        · rw [e]; omega
        · exact h2 y (List.mem_cons_of_mem _ e)
theorem foldl_min_spec : ∀ (ns : List Int) (n : Int), (ns.foldl min n ∈ n :: ns) ∧ ∀ y ∈ n :: ns, ns.foldl min n ≤ y
  | [], n => ⟨List.mem_cons_self, fun y hy => by rw [List.mem_singleton] at hy; rw [hy]; exact Int.le_refl _⟩
  | m :: ns, n => by
    obtain ⟨h1, h2⟩ := foldl_min_spec ns (min n m)
    rw [List.foldl_cons]
    refine ⟨?_, fun y hy => ?_⟩
    · rcases List.mem_cons.mp h1 with e | e
      · rw [e]
        by_cases q : n ≤ m
        · rw [Int.min_eq_left q]; simp
        · rw [Int.min_eq_right (by omega)]; simp
      · simp [e]
    · have h3 := h2 (min n m) List.mem_cons_self
      rcases List.mem_cons.mp hy with e | e
      · rw [e]; omega
      · rcases List.mem_cons.mp e with e | e
        · rw [e]; omega
        · exact h2 y (List.mem_cons_of_mem _ e)
theorem co_maxL (hc : X.calm = true) : CallOk g X (.builtin "max") bMaxL := by
  intro xs s F as μ H vs Q e sr hx k
  unfold bMaxL at e
  split at e
  · obtain ⟨v, rfl, h⟩ := vrs1 hx
    obtain ⟨a, us, rfl, h1, h2⟩ := vr_lst sr h
    unfold maxK at e
    split at e
    · rename_i n ns hi
      cases e
      have e2 := ints_reps hi h2
      subst e2
      refine cc (cr_max hc) ⟨a, n :: ns, rfl, SqL.of h1, Nat.succ_pos _, fun m hm hy => ?_⟩
      obtain ⟨q1, q2⟩ := foldl_max_spec ns n
      have : m = ns.foldl max n := Int.le_antisymm (q2 m hm) (hy _ q1)
      rw [this]
      exact k F as _ H .refl sr ra_int
    · cases e
  · cases e
theorem co_minL (hc : X.calm = true) : CallOk g X (.builtin "min") bMinL := by
  intro xs s F as μ H vs Q e sr hx k
  unfold bMinL at e
  split at e
  · obtain ⟨v, rfl, h⟩ := vrs1 hx
    obtain ⟨a, us, rfl, h1, h2⟩ := vr_lst sr h
    unfold minK at e
    split at e
    · rename_i n ns hi
      cases e
      have e2 := ints_reps hi h2
      subst e2
      refine cc (cr_min hc) ⟨a, n :: ns, rfl, SqL.of h1, Nat.succ_pos _, fun m hm hy => ?_⟩
      obtain ⟨q1, q2⟩ := foldl_min_spec ns n
      have : m = ns.foldl min n := Int.le_antisymm (hy _ q1) (q2 m hm)
      rw [this]
      exact k F as _ H .refl sr ra_int
    · cases e
  · cases e
/-- a rising list of the same numbers -/
def insI (x : Int) : List Int → List Int
  | [] => [x]
  | y :: l => if x ≤ y then x :: y :: l else y :: insI x l
def sortI (l : List Int) : List Int := l.foldr insI []
theorem insI_perm {x : Int} : ∀ {l : List Int}, (insI x l).Perm (x :: l)
  | [] => .refl _
  | y :: l => by
    unfold insI
    split
    · exact .refl _
    · exact (insI_perm.cons y).trans (.swap x y l)
theorem insI_sorted {x : Int} : ∀ {l : List Int}, l.Pairwise (· ≤ ·) → (insI x l).Pairwise (· ≤ ·)
  | [], _ => by unfold insI; simp
  | y :: l, h => by
    unfold insI
    have h1 := List.pairwise_cons.mp h
    split
    · rename_i q
      refine List.pairwise_cons.mpr ⟨fun z hz => ?_, h⟩
      rcases List.mem_cons.mp hz with e | e
      · rw [e]; exact q
      · have := h1.1 z e
        omega
    · rename_i q
      refine List.pairwise_cons.mpr ⟨fun z hz => ?_, insI_sorted h1.2⟩
      rcases List.mem_cons.mp (insI_perm.mem_iff.mp hz) with e | e
      · rw [e]; omega
      · exact h1.1 z e
theorem sortI_perm : ∀ {l : List Int}, (sortI l).Perm l
  | [] => .refl _
  | x :: l => insI_perm.trans (sortI_perm.cons x)
theorem sortI_sorted : ∀ {l : List Int}, (sortI l).Pairwise (· ≤ ·)
  | [] => .nil
  | _ :: _ => insI_sorted sortI_sorted
theorem sortI_unique {l m : List Int} (h : m.Perm l) (hs : m.Pairwise (· ≤ ·)) : m = sortI l :=
  List.Perm.eq_of_pairwise (fun a b _ _ h1 h2 => Int.le_antisymm h1 h2) hs sortI_sorted (h.trans sortI_perm.symm)
def sortK : Option (List Int) → Option S
  | some ns => if ns.length < 64 then some (.fr ((sortI ns).map .int)) else none
  | none => none
def bSorted : List D → Option S
  | [.lst ds] => sortK (ints? ds)
  | _ => none
theorem co_sorted : CallOk g X (.builtin "sorted") bSorted := by
  intro xs s F as μ H vs Q e sr hx k
  unfold bSorted at e
  split at e
  · obtain ⟨v, rfl, h⟩ := vrs1 hx
    obtain ⟨a, us, rfl, h1, h2⟩ := vr_lst sr h
    unfold sortK at e
    split at e
    · rename_i ns hi
      split at e
      · rename_i hz
        cases e
        have e2 := ints_reps hi h2
        subst e2
        refine cc cr_sorted ⟨a, ns, rfl, SqL.of h1, hz, fun ns' p hp hs hn => ?_⟩
        rw [sortI_unique hp hs]
        obtain ⟨sr', f, n⟩ := sr.loose (o := .lst ((sortI ns).map V.int)) hn
        exact k F as _ _ .refl sr' (ra_lst upd_same f n ints_rep)
      · cases e
    · cases e
  · cases e
/-- xs[::-1] -/
def revK (μ : Sto) : Option D → Option R
  | some (.lst ds) => some (.ok (.fr ds.reverse), μ)
  | _ => none
def mRevL (a : ME) : ME := fun ρ μ => andThen (a ρ μ) fun s μ1 => revK μ1 (vw μ1 s)
theorem Reps.reverse {F : Hp} : ∀ {ds : List D} {vs : List V}, Reps g F ds vs → Reps g F ds.reverse vs.reverse
  | [], vs, h => by rw [Reps.nil_iff.mp h]; exact Reps.nil
  | d :: ds, vs, h => by
    obtain ⟨v, r, rfl, h1, h2⟩ := Reps.cons_iff.mp h
    rw [List.reverse_cons, List.reverse_cons]
    exact h2.reverse.append (Reps.cons h1 Reps.nil)
theorem se_revL {a : Expr} {ma : ME} {kk : Nat} {p1 p2 p3 pos : Pos} (ha : SE g X W a ma) : SE g X W (.Subscript a (.Slice none none (some (.UnaryOp .USub (.Constant (.int 1) kk p1) p2)) p3) pos) (mRevL ma) := by
  refine ⟨fun F as ρ μ σ H Q r μ' h sr er post => wE (pe_revL pe_wp) ?_⟩
  refine ha.then_ (show andThen _ _ = some (r, μ') from h) sr er (fun x e => by subst e; exact post) fun s μ1 F1 as1 v H1 h1 x1 sr1 er1 ra1 => ?_
  unfold revK at h1
  split at h1
  · rename_i ds hd
    cases h1
    obtain ⟨p, vs, rfl, hp, rv⟩ := vr_lst sr1 (view_ra sr1 ra1 hd)
    refine ⟨p, vs, rfl, SqL.of hp, fun q hq => ?_⟩
    obtain ⟨sr4, f4, n4⟩ := sr1.loose (o := .lst vs.reverse) hq
    exact post F1 as1 (.ref q) _ x1 sr4 (ra_lst upd_same f4 n4 rv.reverse)
  · cases h1
/-- xs.extend(ys) -/
def lExt : List D → List D → Option (D × List D)
  | xs, [.lst ys] => if xs.length + ys.length ≤ sizeLine then some (.non, xs ++ ys) else none
  | _, _ => none
theorem lm_ext : LmOk g X "list.extend" lExt := by
  intro xs ds ys r F a vs us H Q e hs rx rd ha k
  unfold lExt at e
  split at e
  · rename_i xs ys
    split at e
    · rename_i hz
      cases e
      obtain ⟨u, us', rfl, h1, h2⟩ := Reps.cons_iff.mp rd
      cases Reps.nil_iff.mp h2
      unfold Rep at h1
      obtain ⟨b, zs, rfl, h3, h4⟩ := h1
      refine mc (r := rExtend) (fun pins s σ H x xs v us Q I r rs h => mt_extend pins s σ H x xs v us Q I r rs h) ⟨a, b, vs, zs, rfl, rfl, ha, hs _ _ h3, by rw [rx.length, h4.length]; exact hz, k .non _ (by unfold Rep; rfl) (rx.append h4)⟩
    · cases e
  · cases e
end
end Sz
namespace Sz
theorem ble_of {a b : Nat} (h : a ≤ b) : Nat.ble a b = true := Nat.ble_eq.mpr h
end Sz

set_option Elab.async false
set_option linter.all false
set_option maxRecDepth 100000
set_option maxHeartbeats 2000000
/-! Sz, part V: sorted(a table of the top). -/
namespace Sz
open PySem PySem.Spec PyProof.Rows L2
/-! ### orders of few things -/
def insE {α : Type} (x : α) : List α → List (List α)
  | [] => [[x]]
  | y :: r => (x :: y :: r) :: (insE x r).map (y :: ·)
def permsE {α : Type} : List α → List (List α)
  | [] => [[]]
  | x :: r => (permsE r).flatMap (insE x)
theorem insE_mem {α : Type} {x : α} : ∀ {a b : List α}, a ++ x :: b ∈ insE x (a ++ b)
  | [], [] => List.mem_cons_self
  | [], _ :: _ => List.mem_cons_self
  | y :: a, b => List.mem_cons_of_mem _ (List.mem_map.mpr ⟨_, insE_mem (a := a), rfl⟩)
theorem permsE_mem {α : Type} : ∀ {l m : List α}, m.Perm l → m ∈ permsE l
  | [], m, h => by
    rw [List.Perm.eq_nil h]
    exact List.mem_cons_self
  | x :: r, m, h => by
    obtain ⟨a, b, rfl⟩ := List.append_of_mem (h.mem_iff.mpr List.mem_cons_self)
    have h2 : (a ++ b).Perm r := (List.perm_middle.symm.trans h).cons_inv
    exact List.mem_flatMap.mpr ⟨_, permsE_mem h2, insE_mem⟩
/-- the one order of texts, told where it is one -/
def sortT (ks : List Str) : Option (List Str) := match (permsE ks).filter sortedS with
  | [ys] => some ys
  | _ => none
theorem sortT_one {ks ys zs : List Str} (h : sortT ks = some ys) (hp : zs.Perm ks) (hs : sortedS zs = true) : zs = ys := by
  unfold sortT at h
  have hm : zs ∈ (permsE ks).filter sortedS := List.mem_filter.mpr ⟨permsE_mem hp, hs⟩
  split at h
  · rename_i y e
    cases h
    rw [e] at hm
    simpa using hm
  · cases h
/-! ### the dict that stands -/
theorem kd_pairs {P : Program} {w : World} : ∀ {l : List DictEntry} {ks : List Str}, l.map He.keyOf = He.keysIn w.params ks → (∀ e ∈ l, ∃ k, (strKind P w).is k e.key = true ∧ e.hash = (strKind P w).hash k) ∧ ∃ kvs, Pairs (strKind P w) l kvs ∧ kvs.map (·.1) = ks
  | [], [], _ => ⟨fun e h => (by simp at h), [], .nil, rfl⟩
  | [], _ :: _, h => by cases h
  | _ :: _, [], h => by cases h
  | e :: r, k :: ks, h => by
    have h1 : He.keyOf e :: r.map He.keyOf = some (k, PyData.keyHash w.params k) :: He.keysIn w.params ks := h
    injection h1 with h2 h3
    obtain ⟨a1, kvs, a2, a3⟩ := kd_pairs (P := P) h3
    have hk : ∃ t, e.key = .str k t ∧ e.hash = PyData.keyHash w.params k := by
      unfold He.keyOf at h2
      split at h2
      · rename_i x t q
        have h4 := Option.some.inj h2
        obtain ⟨h5, h6⟩ := Prod.mk.inj h4
        subst h5
        exact ⟨t, q, h6⟩
      · cases h2
    obtain ⟨t, e1, e2⟩ := hk
    refine ⟨fun e' he => ?_, (k, e.val) :: kvs, .cons ?_ rfl a2, by rw [List.map_cons, a3]⟩
    · rcases List.mem_cons.mp he with rfl | he
      · exact ⟨k, by rw [e1]; exact strKind_is P w k t, e2⟩
      · exact a1 e' he
    · show (strKind P w).is k e.key = true
      rw [e1]
      exact strKind_is P w k t
theorem kd_at {P : Program} {w : World} {K : PySem.W.Frag} {h : Heap} {d : Addr} {es : Array DictEntry} {n : Nat} {ks : List Str} (X : K.In h) (D : KDict K w d es n) (hd : He.dicW K d = some (He.keysIn w.params ks)) (nd : ks.Nodup) :
    ∃ kvs, h.DictAt (strKind P w) d kvs n ∧ kvs.map (·.1) = ks := by
  have he : es.toList.map He.keyOf = He.keysIn w.params ks := by
    unfold He.dicW at hd
    rw [D.at_] at hd
    dsimp only at hd
    split at hd
    · exact Option.some.inj hd
    · cases hd
  obtain ⟨a1, kvs, a2, a3⟩ := kd_pairs (P := P) he
  exact ⟨kvs, ⟨_, es, X _ _ D.at_, ⟨rfl, rfl, rfl⟩, rfl, fun e hm => a1 e (Array.mem_toList_iff.mpr hm), a2, by rw [a3]; exact nd⟩, a3⟩
section
variable {X : Cx}
theorem call_sortedKD (hcalm : X.calm = true) : CallR X (.builtin "sorted") (fun xs H Q => ∃ (d : Addr) (es : Array DictEntry) (n : Nat) (ks : List Str), xs = [.ref d] ∧ KDict X.K X.w d es n ∧ He.dicW X.K d = some (He.keysIn X.w.params ks) ∧ ks.Nodup ∧ ks.length < 64 ∧
    ∀ ys p, ys.Perm ks → sortedS ys = true → H p = none → Q (.ref p) (upd H p (.lst (ys.map V.str)))) := by
  intro pins s σ H xs us Q I r q
  obtain ⟨a, es, n, ks, ex, D, hd, nd, h64, q⟩ := q
  subst ex
  obtain ⟨u, eu, rx⟩ := vals1 r
  subst eu
  cases rx
  obtain ⟨vs, hat, hkeys⟩ := kd_at (P := X.prog) I.kIn D hd nd
  have lo : (a == sysModules) = false := D.low
  have hl : vs.length = ks.length := by
    have e := congrArg List.length hkeys
    rw [List.length_map] at e
    exact e
  have h16 : vs.length ≤ sizeLine := by rw [hl, sizeLine_eq]; omega
  refine Calls.call_function_entry PyProof.Rows.kind_sorted PyProof.Rows.plain_sorted PyProof.Rows.entry_sorted (PyProof.Rows.args_sorted1 _) ?_
  unfold Builtin.«sorted»
  refine wpAny_bind (m := checkCount "sorted" 1 1 _) (wpAny_pure ?_)
  refine wpAny_bind (PySem.W.kdu_collect (A := X.A.in1) (PySem.W.kdl_dict (knd := strKind X.prog X.w) (kvs := vs) (ep := n) lo) (I.ok.hd hcalm) hat h16 fun h' tk acc hk hacc => ?_)
  have hal : acc.toList.length = ks.length := by rw [Array.length_toList, hacc.1, hl]
  have hS : StrsAre acc.toList ks := strs_at hal fun j v e => by
    obtain ⟨k, x, e1, e2⟩ := hacc.2 j v (by rw [← Array.getElem?_toList]; exact e)
    have e3 : (vs.map (·.1))[j]? = some k := by rw [List.getElem?_map, e1]; all_goals rfl
    rw [hkeys] at e3
    obtain ⟨t, ev⟩ := Value.isStrOf_shape (x := k) (v := v) e2
    exact ⟨k, t, e3, ev⟩
  have I1 : Inv X pins σ H { s with heap := h', toks := tk } := I.kept hk
  refine wpAny_bind (wpAny_newList ?_ (by rw [hal, sizeLine_eq]; omega))
  have hoL : (h'.push (seqObj "list" acc.toList.toArray 0)).get? h'.objs.size = some (seqObj "list" acc.toList.toArray 0) := Heap.get?_push_size _ rfl
  show wpAny _ _ _ _ _ { s with heap := h'.push (seqObj "list" acc.toList.toArray 0), toks := tk }
  refine wpAny_bind (wpAny_holding (wpAny_call_entry PyProof.Rows.slot_list_sort ⟨_, hoL, rfl⟩ PyProof.Rows.entry_list_sort
    (list_sort_treeK strKind_oneLt (s := { s with heap := h'.push (seqObj "list" acc.toList.toArray 0), toks := tk }) hoL hS.keysOf (fun v₁ v₂ rest e => keyKind_strs (by rw [← e]; exact hS)) (by rw [hal]; exact h64) fun st' hp hs => ⟨_, rfl, ?_⟩)
    (PyProof.Rows.args_list_sort _)))
  obtain ⟨ys, g1, g2, g3⟩ := sorted_out_str hS hp hs
  obtain ⟨e', he'⟩ := PyProof.Rows.sortedHeap_at (vs := acc.toList) (out := (arrOf st').map (·.2)) hoL
  have hlen : (ys.map V.str).length ≤ sizeLine := by
    rw [List.length_map, g2.length_eq]
    exact Nat.le_trans (Nat.le_of_lt h64) (by decide)
  refine wpAny_pure ⟨_, rfl, .ref h'.objs.size, upd H h'.objs.size (.lst (ys.map V.str)), I1.laid (t' := tk) (fun b u e => ?_) (Nat.le_refl _)
    (show ObjOk X.prog X.w _ _ _ (.lst (ys.map V.str)) from ⟨hlen, ((arrOf st').map (·.2)).toList, e', vals_of_strs g1, by rw [Array.toArray_toList]; exact he'⟩), rfl, q ys _ g2 g3 (I1.hok.fresh (Nat.le_refl _))⟩
  have hb : b < h'.objs.size := Heap.lt_size e
  rw [PyProof.Rows.sortedHeap_old (Nat.ne_of_lt hb) (by rw [size_push']; exact Nat.lt_succ_of_lt hb)]
  exact Heap.get?_push_of_some _ e
end
section
variable {g : G} {X : Cx} {tabs : Nat → Option Tab}
def sortTab (tab : Tab) : Option S := if tab.length < 64 ∧ (tab.map (·.1)).Nodup then (sortT (tab.map (·.1))).map fun ys => .fr (ys.map .str) else none
/-- sorted, of a table too -/
def bSortedT (tabs : Nat → Option Tab) : List D → Option S
  | [.fn i] => (match tabs i with
    | some tab => sortTab tab
    | none => none)
  | xs => bSorted xs
theorem strs_rep {H : Hp} : ∀ {ys : List Str}, Reps g H (ys.map D.str) (ys.map V.str)
  | [] => Reps.nil
  | y :: ys => Reps.cons (by unfold Rep; rfl) strs_rep
theorem co_sortedT {w : World} (T : TbF g w tabs) (hK : X.K = g.K) (hw : X.w = w) (hcalm : X.calm = true) : CallOk g X (.builtin "sorted") (bSortedT tabs) := by
  intro xs s F as μ H vs Q e sr hx k
  unfold bSortedT at e
  split at e
  · rename_i i
    split at e
    · rename_i tab ht
      unfold sortTab at e
      split at e
      · rename_i hc
        obtain ⟨ys, hy, rfl⟩ := Option.map_eq_some_iff.mp e
        obtain ⟨v, rfl, h⟩ := vrs1 hx
        have hv := vr_fn h
        subst hv
        obtain ⟨es, n, D, _⟩ := T.ok i tab ht
        subst hw
        rw [← hK] at D
        have hd := T.keys i tab ht
        rw [← hK] at hd
        refine cc (call_sortedKD hcalm) ⟨_, es, n, _, rfl, D, hd, hc.2, by rw [List.length_map]; exact hc.1, fun zs p hp hs hn => ?_⟩
        rw [sortT_one hy hp hs]
        obtain ⟨sr', f, n⟩ := sr.loose (o := .lst (ys.map V.str)) hn
        exact k F as _ _ .refl sr' (ra_lst upd_same f n strs_rep)
      · cases e
    · cases e
  · exact co_sorted xs s F as μ H vs Q e sr hx k
end
end Sz
namespace Sz
open PySem PySem.Spec PyProof.Rows L2
/-! ### for key in a table -/
def Itks (ks : List Str) : It := ⟨fun i _ => i < ks.length, fun i H x H' => H' = H ∧ ∃ z, ks[i]? = some z ∧ x = .str z, fun i _ => ks.length ≤ i⟩
theorem turn_keysK {P : Program} {w : World} {K : PySem.W.Frag} {tg : Expr} {d : Addr} {es : Array DictEntry} {n : Nat} {ks : List Str} (it : Addr) (D : KDict K w d es n) (hd : He.dicW K d = some (He.keysIn w.params ks)) (nd : ks.Nodup) :
    Turn P w K tg (Itks ks) [it] it (fun i h => h.IsKeyIter it d i ks.length n) where
  mem := by simp
  obj := fun i h st b hb => by
    have e : b = it := by simpa using hb
    subst e
    obtain ⟨oi, e, c, dd⟩ := st
    exact ⟨oi, e, fun v z => by rw [dd] at z; cases z⟩
  keep := fun i h h' st k => st.at fun oi e => k it (by simp) oi e
  item := by
    intro X hP hw hK hc i pins s σ H E I hf st hi
    subst hP hw hK
    obtain ⟨f0, f1, f2, f3, f4, f5⟩ := hf it (by simp)
    obtain ⟨kvs, hm, hks⟩ := kd_at (P := X.prog) I.kIn D hd nd
    have hl : ks.length = kvs.length := by rw [← hks, List.length_map]
    have hi2 : i < kvs.length := by rw [← hl]; exact hi
    have hu : kvs[i]? = some kvs[i] := List.getElem?_eq_getElem hi2
    have hz : ks[i]? = some kvs[i].1 := by rw [← hks, List.getElem?_map, hu]; rfl
    rw [hl] at st
    refine wpAny_pyNext_dict_item st hm (k := kvs[i].1) (v := kvs[i].2) hu fun key h' hkey st' sb => ?_
    have I1 : Inv X pins σ H { s with heap := h' } := I.turned (t' := s.toks) (fun b ob hb e => (sb.2 b hb).trans e) f0 f1 f3 f4 f5
    obtain ⟨oi, e, c, dd⟩ := id st'
    obtain ⟨t, ev⟩ := Value.isStrOf_shape (x := kvs[i].1) (v := key) hkey
    refine ⟨key, rfl, go_of (s := { s with heap := h' }) e c dd (by decide) ⟨.str kvs[i].1, H, I1, ⟨t, ev⟩, ⟨rfl, _, hz, rfl⟩, ?_, fun b hb => (hf b hb).1⟩⟩
    show h'.IsKeyIter it d (i + 1) ks.length _
    rw [hl]
    exact st'
  done := by
    intro X hP hw hK hc i pins s σ H E I hf st hi
    subst hP hw hK
    obtain ⟨f0, f1, f2, f3, f4, f5⟩ := hf it (by simp)
    obtain ⟨kvs, hm, hks⟩ := kd_at (P := X.prog) I.kIn D hd nd
    have hl : ks.length = kvs.length := by rw [← hks, List.length_map]
    rw [hl] at st
    obtain ⟨o, es', hgd, hx, hdt, _, hp, _⟩ := id hm
    have hsz : kvs.length = es'.size := by
      have := hp.length
      rw [Array.length_toList] at this
      exact this.symm
    exact next_key_end (I.ok.hd hc) st hgd hdt hsz.symm (by have hi : ks.length ≤ i := hi; omega) fun h' eb => ⟨rfl, I.turned (t' := s.toks) (fun b ob hb e => eb b ob hb e) f0 f1 f3 f4 f5⟩
  self := fun A i s Q E st h => wpAny_pyIter_keyiter st h
section
variable {g : G} {X : Cx} {W : WX} {tg e : Expr} {m : ME} {tabs : Nat → Option Tab}
def keysT (tabs : Nat → Option Tab) : D → Option (List D)
  | .fn i => (match tabs i with
    | some tab => if (tab.map (·.1)).Nodup then some ((tab.map (·.1)).map .str) else none
    | none => none)
  | _ => none
def iTab (tabs : Nat → Option Tab) (m : ME) : MI := fun ρ μ => andThen (m ρ μ) (finI (keysT tabs))
theorem jok_keys {F3 : Hp} {ks : List Str} : JOk g (Itks ks) F3 (ks.map .str) := by
  intro F as μ H sm sr i
  refine ⟨fun hi => ?_, fun d hd => ?_⟩
  · rw [List.length_map] at hi
    exact Nat.le_of_eq hi.symm
  · rw [List.getElem?_map] at hd
    obtain ⟨z, hz, rfl⟩ := Option.map_eq_some_iff.mp hd
    refine ⟨(List.getElem?_eq_some_iff.mp hz).1, fun x H' hy => ?_⟩
    obtain ⟨rfl, z', hz', rfl⟩ := hy
    rw [hz] at hz'
    cases hz'
    exact ⟨F, .refl, sr, by unfold Rep; rfl⟩
theorem si_tab {w : World} (T : TbF g w tabs) (hK : X.K = g.K) (hw : X.w = w) (he : SE g X W e m) : SI g X W tg e (iTab tabs m) := by
  refine ⟨fun F as ρ μ σ H R r μ' h sr er post pins s I => ?_⟩
  have key : wpE X e σ H fun x H1 => ∀ (s1 : Shared) (v : Value), Inv X pins σ H1 s1 → RelV x v → wpAny (model X.prog X.w) X.A (pyIter v) (PIE X pins σ tg R) X.xe s1 := by
    refine he.then_ (show andThen _ _ = some (r, μ') from h) sr er (fun x e => by subst e; exact post) fun s1 μ1 F1 as1 v H1 h1 x1 sr1 er1 ra1 => ?_
    obtain ⟨F2, x2, sr2, rs2⟩ := root_ok sr1 ra1
    unfold finI at h1
    split at h1
    · rename_i d μ2 hd
      obtain ⟨F3, x3, sr3, r3⟩ := toD_rs sr2 rs2 hd
      split at h1
      · rename_i ds hds
        cases h1
        have fin : ∀ J, JOk g J F3 ds → R J H1 := fun J j => post F3 as1 H1 J ((x1.trans x2).trans x3) sr3 j
        intro st u I1 ru
        unfold keysT at hds
        split at hds
        · rename_i i
          split at hds
          · rename_i tab ht
            split at hds
            · rename_i nd
              cases hds
              unfold Rep at r3
              subst r3
              obtain rfl : u = Value.ref (g.fad i) := ru
              obtain ⟨es, n, D, _⟩ := T.ok i tab ht
              subst hw
              rw [← hK] at D
              have hk := T.keys i tab ht
              rw [← hK] at hk
              obtain ⟨kvs, hm, hks⟩ := kd_at (P := X.prog) I1.kIn D hk nd
              have hl : (tab.map (·.1)).length = kvs.length := by rw [← hks, List.length_map]
              refine wpAny_pyIter_dict D.low hm ?_
              refine pi_one (tk := st.toks) I1 _ (turn_keysK _ D hk nd) ⟨_, Heap.get?_push_size _ rfl, rfl, ?_⟩ (fin _ jok_keys)
              rw [hl] <;> rfl
            · cases hds
          · cases hds
        · cases hds
      · cases h1
    · cases h1
  exact thn (key pins s I) fun v s1 ⟨x, H1, I1, rx, q⟩ => q s1 v I1 rx
end
end Sz

set_option Elab.async false
set_option linter.all false
set_option maxRecDepth 100000
set_option maxHeartbeats 4000000
/-! Sz X: a list that nobody changes any more, loops with an answer. -/
namespace Sz
open PySem PySem.Spec L2
def frzK (i : Nat) (ρ : En) : Option (D × Sto) → Option (Fl × En × Sto)
  | some (d, μ) => some (.nx, ρ.set i (some (.val d)), μ)
  | none => none
def frzM (i : Nat) (ρ : En) (μ : Sto) : Option (Option S) → Option (Fl × En × Sto)
  | some (some s) => frzK i ρ (toD μ s)
  | _ => none
/-- a statement; behind it the i-th slot's list is frozen -/
def sFrz (i : Nat) (m : MS) : MS := fun ρ μ => seqK (m ρ μ) fun ρ1 μ1 => frzM i ρ1 μ1 ρ1[i]?
theorem sFrz_ap {i : Nat} {m : MS} {ρ : En} {μ : Sto} : sFrz i m ρ μ = seqK (m ρ μ) fun ρ1 μ1 => frzM i ρ1 μ1 ρ1[i]? := Eq.trans rfl rfl
theorem frz_cell {i k : Nat} {ρ : En} {μ : Sto} {ds : List D} (h : μ[k]? = some (.lst ds)) : frzM i ρ μ (some (some (.cell k))) = some (.nx, ρ.set i (some (.val (.lst ds))), μ.set k (.frz (.lst ds))) := by
  show frzK i ρ (toD μ (.cell k)) = _
  unfold toD
  dsimp only
  rw [h]
  rfl
theorem ER.upd {g : G} {F : Hp} {as : List Addr} {ρ : En} {σ : L2.St} {i : Nat} {s : S} {v : V} (h : ER g F as ρ σ) (hv : σ[i]? = some (some v)) (r : RS g F as s v) : ER g F as (ρ.set i (some s)) σ := by
  have e : σ.set i (some v) = σ := by
    apply List.ext_getElem?
    intro j
    by_cases hj : i = j
    · subst hj
      rw [List.getElem?_set_self (List.getElem?_eq_some_iff.mp hv).1, hv]
    · rw [List.getElem?_set_ne hj]
  have := h.set (i := i) r
  rw [e] at this
  exact this
theorem ss_frz {g : G} {X : Cx} {W : WX} {st : Stmt} {m : MS} {i : Nat} (hm : SS g X W st m) : SS g X W st (sFrz i m) := by
  refine ⟨fun F as ρ μ σ H D fl ρ' μ' h sr er post => ?_⟩
  rw [sFrz_ap] at h
  cases q : m ρ μ with
  | none => rw [q] at h; cases h
  | some z =>
    obtain ⟨fl1, ρ1, μ1⟩ := z
    rw [q] at h
    refine hm.run F as ρ μ σ H D fl1 ρ1 μ1 q sr er ?_
    cases fl1 with
    | nx =>
      have h : frzM i ρ1 μ1 ρ1[i]? = some (fl, ρ', μ') := h
      intro F1 as1 σ1 H1 x1 sr1 er1
      unfold frzM at h
      split at h
      · rename_i s hs
        obtain ⟨v, e1, e2⟩ := er1.at_ i s hs
        cases q2 : toD μ1 s with
        | none => rw [q2] at h; cases h
        | some p =>
          obtain ⟨d, μ2⟩ := p
          rw [q2] at h
          cases h
          obtain ⟨F2, x2, sr2, r2⟩ := toD_rs sr1 e2 q2
          exact post F2 as1 σ1 H1 (x1.trans x2) sr2 ((er1.mono x2).upd e1 (show RS g F2 as1 (.val d) v from r2))
      · cases h
    | bk => cases h; exact post
    | ct => cases h; exact post
    | rt s => cases h; exact post
    | ex x => cases h; exact post
/-- the first answer -/
def outs (out : Nat → D → Option S) : Nat → List D → Option S
  | _, [] => none
  | k, d :: ds => match out k d with
    | some s => some s
    | none => outs out (k + 1) ds
def flOf : Option S → Fl
  | some s => .rt s
  | none => .nx
theorem flOf_some {s : S} : flOf (some s) = .rt s := Eq.trans rfl rfl
theorem flOf_none : flOf none = .nx := Eq.trans rfl rfl
theorem floop_ret {t : MG} {b : MS} (I : Nat → En → Sto → Prop) (out : Nat → D → Option S) : ∀ (ds : List D) (k : Nat) (ρ : En) (μ : Sto),
    (∀ i d ρ μ, ds[i]? = some d → I (k + i) ρ μ → ∃ ρ1 μ1, t (.val d) ρ μ = some (ρ1, μ1) ∧ ∃ ρ2 μ2, b ρ1 μ1 = some (flOf (out (k + i) d), ρ2, μ2) ∧ I (k + i + 1) ρ2 μ2) → I k ρ μ →
    ∃ n ρ' μ', floop t b ds ρ μ = some (flOf (outs out k ds), ρ', μ') ∧ I n ρ' μ' ∧ n ≤ k + ds.length ∧ (outs out k ds = none → n = k + ds.length)
  | [], k, ρ, μ, _, h => ⟨k, ρ, μ, rfl, h, Nat.le_refl _, fun _ => rfl⟩
  | d :: ds, k, ρ, μ, step, h => by
    obtain ⟨ρ1, μ1, e1, ρ2, μ2, e2, h2⟩ := step 0 d ρ μ rfl h
    have e2 : b ρ1 μ1 = some (flOf (out k d), ρ2, μ2) := e2
    rw [floop_cons e1, e2]
    unfold outs
    cases q : out k d with
    | some s =>
      refine ⟨k + 1, ρ2, μ2, rfl, h2, ?_, fun e => by cases e⟩
      rw [List.length_cons]
      omega
    | none =>
      obtain ⟨n, ρ', μ', e3, h3, l3, n3⟩ := floop_ret I out ds (k + 1) ρ2 μ2 (fun i x ρ μ hx hI => by
        have e : k + 1 + i = k + (i + 1) := by omega
        rw [e] at hI ⊢
        exact step (i + 1) x ρ μ (by rw [List.getElem?_cons_succ]; exact hx) hI) h2
      refine ⟨n, ρ', μ', e3, h3, ?_, fun e => ?_⟩
      · rw [List.length_cons]; omega
      · rw [n3 e, List.length_cons]; omega
theorem cloop_filterL {α : Type} {t : MG} {c : MT} {el : ME} {ρ : En} {μ : Sto} (emb : α → D) (p : α → Bool) (f : α → D) : ∀ (l : List α) (acc : List D), acc.length + l.length ≤ 1000 → (∀ x ∈ l, ∀ ν : Sto, ∃ ρ', t (.val (emb x)) ρ ν = some (ρ', ν) ∧ c ρ' ν = some (.ok (p x), ν) ∧ (p x = true → el ρ' ν = some (.ok (.val (f x)), ν))) →
    cloop t c el ρ μ.length (l.map emb) (μ ++ [.lst acc]) = some (μ ++ [.lst (acc ++ (l.filter p).map f)])
  | [], acc, _, _ => by rw [List.filter_nil, List.map_nil, List.map_nil, List.append_nil]; rfl
  | d :: ds, acc, hl, h => by
    obtain ⟨ρ', h1, h2, h3⟩ := h d List.mem_cons_self (μ ++ [.lst acc])
    rw [List.length_cons] at hl
    rw [List.map_cons]
    unfold cloop
    rw [h1]
    dsimp only
    rw [h2]
    cases e : p d with
    | false =>
      dsimp only
      rw [cloop_filterL emb p f ds acc (by omega) (fun x hx => h x (List.mem_cons_of_mem _ hx)), List.filter_cons_of_neg (by rw [e]; exact Bool.false_ne_true)]
    | true =>
      dsimp only
      rw [h3 e]
      dsimp only
      rw [cput_end (by omega)]
      dsimp only
      rw [cloop_filterL emb p f ds (acc ++ [f d]) (by rw [List.length_append, List.length_singleton]; omega) (fun x hx => h x (List.mem_cons_of_mem _ hx)), List.append_assoc, List.filter_cons_of_pos e]
      rfl
/-- a comprehension over the images of a list's things -/
theorem comp_filterL {α : Type} {i : MI} {t : MG} {c : MT} {el : ME} {ow : List Nat} {ρ : En} {μ μ1 : Sto} {l : List α} (emb : α → D) (p : α → Bool) (f : α → D) (hi : i ρ μ = some (.ok (l.map emb), μ1)) (hl : l.length ≤ 1000)
    (h : ∀ x ∈ l, ∀ ν : Sto, ∃ ρ', t (.val (emb x)) (wipeE ρ ow) ν = some (ρ', ν) ∧ c ρ' ν = some (.ok (p x), ν) ∧ (p x = true → el ρ' ν = some (.ok (.val (f x)), ν))) :
    mComp i t c el ow ρ μ = some (.ok (.fr ((l.filter p).map f)), μ1) := by
  rw [mComp_ap, hi, andThen_ok, cloop_filterL emb p f l [] (by rw [List.length_nil]; omega) h, List.nil_append]
  unfold finC
  dsimp only
  rw [get_end]
  dsimp only
  rw [take_end]
theorem comp_mapL {α : Type} {i : MI} {t : MG} {el : ME} {ow : List Nat} {ρ : En} {μ μ1 : Sto} {l : List α} (emb : α → D) (f : α → D) (hi : i ρ μ = some (.ok (l.map emb), μ1)) (hl : l.length ≤ 1000)
    (h : ∀ x ∈ l, ∀ ν : Sto, ∃ ρ', t (.val (emb x)) (wipeE ρ ow) ν = some (ρ', ν) ∧ el ρ' ν = some (.ok (.val (f x)), ν)) :
    mComp i t tTrue el ow ρ μ = some (.ok (.fr (l.map f)), μ1) := by
  have e := comp_filterL (c := tTrue) emb (fun _ => true) f hi hl fun x hx ν => by
    obtain ⟨ρ', h1, h2⟩ := h x hx ν
    exact ⟨ρ', h1, rfl, fun _ => h2⟩
  rw [List.filter_eq_self.mpr (fun _ _ => rfl)] at e
  exact e
theorem list_lst {ds : List D} : bList [.lst ds] = some (.fr ds) := Eq.trans rfl rfl
theorem list_tup {ds : List D} : bList [.tup ds] = some (.fr ds) := Eq.trans rfl rfl
end Sz

set_option Elab.async false
set_option linter.all false
set_option maxRecDepth 100000
set_option maxHeartbeats 4000000
/-! Sz Y: zip of lists and tuples in any mix, of two and of three. -/
namespace Sz
open PySem PySem.Spec PyProof.Rows L2
/-- a list (false) or a tuple (true) -/
def SqK (k : Bool) (K : PySem.W.Frag) (H : Hp) (a : Addr) (xs : List V) : Prop := match k with
  | true => SqT K H a xs
  | false => SqL K H a xs
def AtIt (k : Bool) (h : Heap) (it l : Addr) (i : Nat) : Prop := match k with
  | true => h.IsTupleIter it l i
  | false => h.IsListIter it l i
def AtSq (k : Bool) (h : Heap) (l : Addr) (its : Array Value) : Prop := match k with
  | true => h.IsTuple l its
  | false => h.IsList l its
def itO (k : Bool) (l : Addr) : Obj := match k with
  | true => { cls := .type "tuple_iterator", data := .fields #[.ref l, .int 0 0] }
  | false => { cls := .type "list_iterator", data := .fields #[.ref l, .int 0 0] }
theorem AtIt.fits {k : Bool} {h h' : Heap} {it l : Addr} {i : Nat} (x : AtIt k h it l i) (e : ∀ o, h.get? it = some o → h'.get? it = some o) : AtIt k h' it l i := by
  cases k
  · exact Heap.IsListIter.at x e
  · exact Heap.IsTupleIter.at x e
theorem AtIt.obj {k : Bool} {h : Heap} {it l : Addr} {i : Nat} (x : AtIt k h it l i) : ∃ o, h.get? it = some o ∧ ∀ v, o.data ≠ .cell v := by
  cases k
  · obtain ⟨o, e, _, d⟩ := (show Heap.IsListIter _ _ _ _ from x)
    exact ⟨o, e, fun v q => by rw [d] at q; cases q⟩
  · obtain ⟨o, e, _, d⟩ := (show Heap.IsTupleIter _ _ _ _ from x)
    exact ⟨o, e, fun v q => by rw [d] at q; cases q⟩
theorem AtIt.new {k : Bool} {h : Heap} {it l : Addr} (e : h.get? it = some (itO k l)) : AtIt k h it l 0 := by
  cases k
  · exact ⟨_, e, rfl, rfl⟩
  · exact ⟨_, e, rfl, rfl⟩
theorem draws_k {prog : Program} {w : World} {A : Around} (k : Bool) (hh : A.handled = none) (it l : Addr) (hne : l ≠ it) (its : Array Value) :
    Draws prog w A it [it, l] its.size (fun i v => its[i]? = some v) fun i h => AtIt k h it l i ∧ AtSq k h l its := by
  cases k
  · exact Draws.list hh it l hne its
  · exact Draws.tuple hh it l hne its
theorem begins_k (k : Bool) (l : Addr) (its : Array Value) : Begins (.ref l) (itO k l) fun h => AtSq k h l its := by
  cases k
  · exact begins_list l its
  · exact begins_tuple l its
section
variable {X : Cx} {pins : List (Addr × Obj)} {σ : L2.St} {H : Hp} {s : Shared} {k : Bool} {a : Addr} {xs ys : List V}
theorem inv_sqK (I : Inv X pins σ H s) (h : SqK k X.K H a xs) : ∃ its : List Value, Vals xs its ∧ AtSq k s.heap a its.toArray ∧ a < s.heap.objs.size := by
  cases k
  · obtain ⟨its, r, p, _⟩ := I.list h
    exact ⟨its, r, p.isList, p.lt⟩
  · obtain ⟨its, r, p, _⟩ := I.tuple h
    obtain ⟨o, ho, q⟩ := p
    exact ⟨its, r, ⟨o, ho, q⟩, Heap.lt_size ho⟩
theorem inv_sqK_inj (I : Inv X pins σ H s) (h : SqK k X.K H a xs) (h' : SqK k X.K H a ys) : xs = ys := by
  cases k
  · exact I.list_inj h h'
  · exact I.tuple_inj h h'
end
theorem not_mem2 {α : Type} {x a b : α} (h1 : x ≠ a) (h2 : x ≠ b) : x ∉ [a, b] := by
  intro h
  rcases List.mem_cons.mp h with e | h
  · exact h1 e
  · exact h2 (List.mem_singleton.mp h)
theorem sep2_of {n a b : Nat} (ha : a < n) (hb : b < n) : ZipSep2 (n + 4) (n + 2) (n + 3) n (n + 1) [n, a] [n + 1, b] :=
  ⟨show (n + 2 : Nat) ≠ n + 4 by omega, show (n + 3 : Nat) ≠ n + 4 by omega, show (n + 2 : Nat) ≠ n + 3 by omega, show (n + 2 : Nat) ≠ n by omega, List.mem_cons_self, not_mem2 (show (n + 4 : Nat) ≠ n by omega) (show (n + 4 : Nat) ≠ a by omega), not_mem2 (show (n + 3 : Nat) ≠ n by omega) (show (n + 3 : Nat) ≠ a by omega),
    show (n + 2 : Nat) ≠ n + 1 by omega, List.mem_cons_self, not_mem2 (show (n + 4 : Nat) ≠ n + 1 by omega) (show (n + 4 : Nat) ≠ b by omega), not_mem2 (show (n + 3 : Nat) ≠ n + 1 by omega) (show (n + 3 : Nat) ≠ b by omega),
    not_mem2 (show (n : Nat) ≠ n + 1 by omega) (show (n : Nat) ≠ b by omega), not_mem2 (show (n + 1 : Nat) ≠ n by omega) (show (n + 1 : Nat) ≠ a by omega)⟩
theorem sep3_of {n a b c : Nat} (ha : a < n) (hb : b < n) (hc : c < n) : ZipSep3 (n + 5) (n + 3) (n + 4) n (n + 1) (n + 2) [n, a] [n + 1, b] [n + 2, c] :=
  ⟨show (n + 3 : Nat) ≠ n + 5 by omega, show (n + 4 : Nat) ≠ n + 5 by omega, show (n + 3 : Nat) ≠ n + 4 by omega, show (n + 3 : Nat) ≠ n by omega, List.mem_cons_self, not_mem2 (show (n + 5 : Nat) ≠ n by omega) (show (n + 5 : Nat) ≠ a by omega), not_mem2 (show (n + 4 : Nat) ≠ n by omega) (show (n + 4 : Nat) ≠ a by omega),
    show (n + 3 : Nat) ≠ n + 1 by omega, List.mem_cons_self, not_mem2 (show (n + 5 : Nat) ≠ n + 1 by omega) (show (n + 5 : Nat) ≠ b by omega), not_mem2 (show (n + 4 : Nat) ≠ n + 1 by omega) (show (n + 4 : Nat) ≠ b by omega),
    show (n + 3 : Nat) ≠ n + 2 by omega, List.mem_cons_self, not_mem2 (show (n + 5 : Nat) ≠ n + 2 by omega) (show (n + 5 : Nat) ≠ c by omega), not_mem2 (show (n + 4 : Nat) ≠ n + 2 by omega) (show (n + 4 : Nat) ≠ c by omega),
    not_mem2 (show (n : Nat) ≠ n + 1 by omega) (show (n : Nat) ≠ b by omega), not_mem2 (show (n : Nat) ≠ n + 2 by omega) (show (n : Nat) ≠ c by omega), not_mem2 (show (n + 1 : Nat) ≠ n by omega) (show (n + 1 : Nat) ≠ a by omega),
    not_mem2 (show (n + 1 : Nat) ≠ n + 2 by omega) (show (n + 1 : Nat) ≠ c by omega), not_mem2 (show (n + 2 : Nat) ≠ n by omega) (show (n + 2 : Nat) ≠ a by omega), not_mem2 (show (n + 2 : Nat) ≠ n + 1 by omega) (show (n + 2 : Nat) ≠ b by omega)⟩
theorem mem_le {n m e : Nat} : ∀ {ds : List Nat}, e ∈ ds.map (n + ·) → n ≤ e := by
  intro ds h
  obtain ⟨x, _, rfl⟩ := List.mem_map.mp h
  exact Nat.le_add_right _ _
def ItZ2 (j k : Bool) (K : PySem.W.Frag) (a b : Addr) : It :=
  ⟨fun i H => ∃ (xs ys : List V) (x y : V), SqK j K H a xs ∧ SqK k K H b ys ∧ xs[i]? = some x ∧ ys[i]? = some y,
    fun i H v H' => ∃ T x y, v = .ref T ∧ H T = none ∧ H' = upd H T (.tup [x, y]) ∧ (∀ xs, SqK j K H a xs → xs[i]? = some x) ∧ ∀ ys, SqK k K H b ys → ys[i]? = some y,
    fun i H => ∃ xs ys : List V, SqK j K H a xs ∧ SqK k K H b ys ∧ i ≤ xs.length ∧ i ≤ ys.length ∧ (i = xs.length ∨ i = ys.length)⟩
theorem turn_z2 {P : Program} {w : World} {K : PySem.W.Frag} {elts : List Expr} {kk : Nat} {tpos : Pos} {j k : Bool} {a b z TI TO i1 i2 : Addr} (S : ZipSep2 z TI TO i1 i2 [i1, a] [i2, b]) (n1 : a ≠ i1) (n2 : b ≠ i2) :
    Turn P w K (.Tuple elts kk tpos) (ItZ2 j k K a b) [z, TI, TO, i1, i2] z fun i h => IsZip h z TI TO .none ∧ IsTupOf2 h TI (.ref i1) (.ref i2) ∧ (∃ x y, IsTupOf2 h TO x y) ∧ AtIt j h i1 a i ∧ AtIt k h i2 b i where
  mem := List.mem_cons_self
  obj := fun i h st e he => by
    obtain ⟨hz, hTI, ⟨t1, t2, hTO⟩, h1, h2⟩ := st
    have he' : e = z ∨ e = TI ∨ e = TO ∨ e = i1 ∨ e = i2 := by simpa using he
    rcases he' with rfl | rfl | rfl | rfl | rfl
    · exact ⟨_, hz, fun v q => by cases q⟩
    · exact ⟨_, hTI, fun v q => by cases q⟩
    · exact ⟨_, hTO, fun v q => by cases q⟩
    · exact h1.obj
    · exact h2.obj
  keep := fun i h h' st kp => by
    obtain ⟨hz, hTI, ⟨t1, t2, hTO⟩, h1, h2⟩ := st
    exact ⟨kp z (by simp) _ hz, kp TI (by simp) _ hTI, ⟨t1, t2, kp TO (by simp) _ hTO⟩, h1.fits fun o e => kp i1 (by simp) o e, h2.fits fun o e => kp i2 (by simp) o e⟩
  item := by
    intro X hP hw hK hc i pins s σ H E I hf st hg
    subst hP hw hK
    obtain ⟨hz, hTI, ⟨t1, t2, hTO⟩, h1, h2⟩ := st
    obtain ⟨xs, ys, x, y, q1, q2, g1, g2⟩ := hg
    obtain ⟨its1, rv1, p1, lt1⟩ := inv_sqK I q1
    have D1 := draws_k (prog := X.prog) (w := X.w) (A := X.A.in1) j (show X.A.in1.handled = none from I.ok.hd hc) i1 a n1 its1.toArray
    have len1 := rv1.length
    obtain ⟨its2, rv2, p2, lt2⟩ := inv_sqK I q2
    have D2 := draws_k (prog := X.prog) (w := X.w) (A := X.A.in1) k (show X.A.in1.handled = none from I.ok.hd hc) i2 b n2 its2.toArray
    have len2 := rv2.length
    obtain ⟨w1, hw1, rw1⟩ := rv1.get g1
    have il1 : i < its1.toArray.size := by rw [List.size_toArray, ← len1]; exact (List.getElem?_eq_some_iff.mp g1).1
    obtain ⟨w2, hw2, rw2⟩ := rv2.get g2
    have il2 : i < its2.toArray.size := by rw [List.size_toArray, ← len2]; exact (List.getElem?_eq_some_iff.mp g2).1
    have zl : z < s.heap.objs.size := Heap.lt_size hz
    refine wpAny_pyNext_zipD2_item S D1 D2 hz hTI hTO ⟨h1, p1⟩ ⟨h2, p2⟩ il1 il2 fun v1 v2 h1' tk e1 e2 zn TOn sn1 sn2 hT hsz hk => ?_
    have ee1 : v1 = w1 := by
      rw [List.getElem?_toArray, hw1] at e1
      exact (Option.some.inj e1).symm
    subst ee1
    have ee2 : v2 = w2 := by
      rw [List.getElem?_toArray, hw2] at e2
      exact (Option.some.inj e2).symm
    subst ee2
    refine ⟨_, rfl, wpAny_letOwnedTupleGo_zip (s := { s with heap := h1', toks := tk }) zn fun h2' zm sb => ?_⟩
    have T2 : h2'.get? s.heap.objs.size = some { cls := .type "tuple", data := .seq #[v1, v2] } := (sb.2 _ (Nat.ne_of_gt zl)).trans hT
    have mk : ObjOk X.prog X.w (upd H s.heap.objs.size (.tup [x, y])) h2' s.heap.objs.size (.tup [x, y]) := ⟨by show 2 ≤ sizeLine; decide, [v1, v2], .cons rw1 (.cons rw2 (.nil)), ⟨_, T2, rfl, _, rfl⟩⟩
    have J : Inv X pins σ (upd H s.heap.objs.size (.tup [x, y])) { s with heap := h2', toks := tk } :=
      I.turnedNew (t' := tk) (ch := [z, TI, TO, i1, i2]) (fun e o hb q => by
        have m : ¬ (e = z ∨ e = TI ∨ e = TO ∨ e = i1 ∨ e = i2) := by simpa using hb
        simp only [not_or] at m
        obtain ⟨m0, m9, mT, m1, m2⟩ := m
        exact (sb.2 e m0).trans (hk e o m0 mT m1 m2 q)) hf (Nat.le_refl _) mk
    refine ⟨.ref s.heap.objs.size, _, J, rfl, ⟨_, x, y, rfl, I.hok.fresh (Nat.le_refl _), rfl, fun m hm => by rw [inv_sqK_inj I hm q1]; exact g1, fun m hm => by rw [inv_sqK_inj I hm q2]; exact g2⟩, ⟨zm, (sb.2 _ S.TIz).trans (hk _ _ S.TIz S.TITO S.TIi1 S.TIi2 hTI), ⟨_, _, (sb.2 _ S.TOz).trans TOn⟩, sn1.1.fits fun o e => (sb.2 _ S.zi1.symm).trans e, sn2.1.fits fun o e => (sb.2 _ S.zi2.symm).trans e⟩, fun e he => ?_⟩
    have le : e < s.heap.objs.size := by
      have he' : e = z ∨ e = TI ∨ e = TO ∨ e = i1 ∨ e = i2 := by simpa using he
      rcases he' with rfl | rfl | rfl | rfl | rfl
      · exact zl
      · exact Heap.lt_size hTI
      · exact Heap.lt_size hTO
      · obtain ⟨o, eo, _⟩ := h1.obj
        exact Heap.lt_size eo
      · obtain ⟨o, eo, _⟩ := h2.obj
        exact Heap.lt_size eo
    rw [upd_ne (Nat.ne_of_lt le)]
    exact (hf e he).1
  done := by
    intro X hP hw hK hc i pins s σ H E I hf st hg
    subst hP hw hK
    obtain ⟨hz, hTI, ⟨t1, t2, hTO⟩, h1, h2⟩ := st
    obtain ⟨xs, ys, q1, q2, g1, g2, gend⟩ := hg
    obtain ⟨its1, rv1, p1, lt1⟩ := inv_sqK I q1
    have D1 := draws_k (prog := X.prog) (w := X.w) (A := X.A.in1) j (show X.A.in1.handled = none from I.ok.hd hc) i1 a n1 its1.toArray
    have len1 := rv1.length
    obtain ⟨its2, rv2, p2, lt2⟩ := inv_sqK I q2
    have D2 := draws_k (prog := X.prog) (w := X.w) (A := X.A.in1) k (show X.A.in1.handled = none from I.ok.hd hc) i2 b n2 its2.toArray
    have len2 := rv2.length
    refine wpAny_pyNext_zipD2_end S D1 D2 hz hTI hTO ⟨h1, p1⟩ ⟨h2, p2⟩ (by rw [List.size_toArray]; omega) (by rw [List.size_toArray]; omega) (by simp only [List.size_toArray]; omega) fun h1' tk hk => ⟨rfl, I.turnedL (t' := tk) (ch := [z, TI, TO, i1, i2]) (fun e o hb q => ?_) hf⟩
    have m : ¬ (e = z ∨ e = TI ∨ e = TO ∨ e = i1 ∨ e = i2) := by simpa using hb
    simp only [not_or] at m
    obtain ⟨m0, m9, mT, m1, m2⟩ := m
    exact hk e o m0 mT m1 m2 q
  self := fun A i s Q E st h => wpAny_pyIter_zip st.1 h
def iZip2M (K : PySem.W.Frag) (ta : TA) : TI := fun σ H R => ta σ H fun vs H1 => ∃ j k a b xs ys, vs = [.ref a, .ref b] ∧ SqK j K H1 a xs ∧ SqK k K H1 b ys ∧ R (ItZ2 j k K a b) H1
theorem pi_zip2M {X : Cx} {e e2 : Expr} {ta : TA} {p pos tpos : Pos} {elts : List Expr} {kk : Nat} (hg : Gl X "zip") (hm : X.mg "zip" = none) (ha : PA X [e, e2] ta) (hs : starEach [e, e2] X.env = (false, eval e X.env) :: starEach [e2] X.env)
    (hpl : (backTo pos (starEach [e2] X.env)).any (·.1) = false) : PI X (.Tuple elts kk tpos) (.Call (.Name "zip" p) [e, e2] [] pos) (iZip2M X.K ta) := by
  refine ⟨fun pins s σ H R I h => Call_ (ld_blt I hg hm PyProof.Rows.boot_zip (PyProof.Rows.callWith_type1 (thn (ha.run pos pins s σ H _ I h) fun us s1 ⟨vs, H1, I1, r1, q0⟩ => ?_) hs hpl))⟩
  obtain ⟨j, k, a, b, xs, ys, rfl, q1, q2, qR⟩ := q0
  cases r1 with | cons r1 rr =>
  cases rr with | cons r2 rr =>
  cases rr
  cases r1
  cases r2
  obtain ⟨its1, rv1, p1, lt1⟩ := inv_sqK I1 q1
  obtain ⟨its2, rv2, p2, lt2⟩ := inv_sqK I1 q2
  refine zip_begins2 (begins_k j a its1.toArray) (begins_k k b its2.toArray) p1 p2 fun h' hz hTI hTO o1 o2 hsz hk => wpAny_pyIter_zip hz ?_
  refine ⟨s1.heap.objs.size + 4, [s1.heap.objs.size + 4, s1.heap.objs.size + 2, s1.heap.objs.size + 3, s1.heap.objs.size, s1.heap.objs.size + 1], _, _, H1, rfl, I1.kept (t' := s1.toks) hk, turn_z2 (sep2_of lt1 lt2) (Nat.ne_of_lt lt1) (Nat.ne_of_lt (Nat.lt_succ_of_lt lt2)), ⟨hz, hTI, ⟨_, _, hTO⟩, AtIt.new o1, AtIt.new o2⟩, fun e he => ?_, qR⟩
  have le : s1.heap.objs.size ≤ e := mem_le (m := 0) (ds := [4, 2, 3, 0, 1]) he
  exact I1.fpOk le (I1.hok.fresh le)
def ItZ3 (j k l : Bool) (K : PySem.W.Frag) (a b c : Addr) : It :=
  ⟨fun i H => ∃ (xs ys us : List V) (x y u : V), SqK j K H a xs ∧ SqK k K H b ys ∧ SqK l K H c us ∧ xs[i]? = some x ∧ ys[i]? = some y ∧ us[i]? = some u,
    fun i H v H' => ∃ T x y u, v = .ref T ∧ H T = none ∧ H' = upd H T (.tup [x, y, u]) ∧ (∀ xs, SqK j K H a xs → xs[i]? = some x) ∧ (∀ ys, SqK k K H b ys → ys[i]? = some y) ∧ (∀ us, SqK l K H c us → us[i]? = some u),
    fun i H => ∃ xs ys us : List V, SqK j K H a xs ∧ SqK k K H b ys ∧ SqK l K H c us ∧ i ≤ xs.length ∧ i ≤ ys.length ∧ i ≤ us.length ∧ (i = xs.length ∨ i = ys.length ∨ i = us.length)⟩
theorem turn_z3 {P : Program} {w : World} {K : PySem.W.Frag} {elts : List Expr} {kk : Nat} {tpos : Pos} {j k l : Bool} {a b c z TI TO i1 i2 i3 : Addr} (S : ZipSep3 z TI TO i1 i2 i3 [i1, a] [i2, b] [i3, c]) (n1 : a ≠ i1) (n2 : b ≠ i2) (n3 : c ≠ i3) :
    Turn P w K (.Tuple elts kk tpos) (ItZ3 j k l K a b c) [z, TI, TO, i1, i2, i3] z fun i h => IsZip h z TI TO .none ∧ IsTupOf3 h TI (.ref i1) (.ref i2) (.ref i3) ∧ (∃ x y u, IsTupOf3 h TO x y u) ∧ AtIt j h i1 a i ∧ AtIt k h i2 b i ∧ AtIt l h i3 c i where
  mem := List.mem_cons_self
  obj := fun i h st e he => by
    obtain ⟨hz, hTI, ⟨t1, t2, t3, hTO⟩, h1, h2, h3⟩ := st
    have he' : e = z ∨ e = TI ∨ e = TO ∨ e = i1 ∨ e = i2 ∨ e = i3 := by simpa using he
    rcases he' with rfl | rfl | rfl | rfl | rfl | rfl
    · exact ⟨_, hz, fun v q => by cases q⟩
    · exact ⟨_, hTI, fun v q => by cases q⟩
    · exact ⟨_, hTO, fun v q => by cases q⟩
    · exact h1.obj
    · exact h2.obj
    · exact h3.obj
  keep := fun i h h' st kp => by
    obtain ⟨hz, hTI, ⟨t1, t2, t3, hTO⟩, h1, h2, h3⟩ := st
    exact ⟨kp z (by simp) _ hz, kp TI (by simp) _ hTI, ⟨t1, t2, t3, kp TO (by simp) _ hTO⟩, h1.fits fun o e => kp i1 (by simp) o e, h2.fits fun o e => kp i2 (by simp) o e, h3.fits fun o e => kp i3 (by simp) o e⟩
  item := by
    intro X hP hw hK hc i pins s σ H E I hf st hg
    subst hP hw hK
    obtain ⟨hz, hTI, ⟨t1, t2, t3, hTO⟩, h1, h2, h3⟩ := st
    obtain ⟨xs, ys, us, x, y, u, q1, q2, q3, g1, g2, g3⟩ := hg
    obtain ⟨its1, rv1, p1, lt1⟩ := inv_sqK I q1
    have D1 := draws_k (prog := X.prog) (w := X.w) (A := X.A.in1) j (show X.A.in1.handled = none from I.ok.hd hc) i1 a n1 its1.toArray
    have len1 := rv1.length
    obtain ⟨its2, rv2, p2, lt2⟩ := inv_sqK I q2
    have D2 := draws_k (prog := X.prog) (w := X.w) (A := X.A.in1) k (show X.A.in1.handled = none from I.ok.hd hc) i2 b n2 its2.toArray
    have len2 := rv2.length
    obtain ⟨its3, rv3, p3, lt3⟩ := inv_sqK I q3
    have D3 := draws_k (prog := X.prog) (w := X.w) (A := X.A.in1) l (show X.A.in1.handled = none from I.ok.hd hc) i3 c n3 its3.toArray
    have len3 := rv3.length
    obtain ⟨w1, hw1, rw1⟩ := rv1.get g1
    have il1 : i < its1.toArray.size := by rw [List.size_toArray, ← len1]; exact (List.getElem?_eq_some_iff.mp g1).1
    obtain ⟨w2, hw2, rw2⟩ := rv2.get g2
    have il2 : i < its2.toArray.size := by rw [List.size_toArray, ← len2]; exact (List.getElem?_eq_some_iff.mp g2).1
    obtain ⟨w3, hw3, rw3⟩ := rv3.get g3
    have il3 : i < its3.toArray.size := by rw [List.size_toArray, ← len3]; exact (List.getElem?_eq_some_iff.mp g3).1
    have zl : z < s.heap.objs.size := Heap.lt_size hz
    refine wpAny_pyNext_zipD3_item S D1 D2 D3 hz hTI hTO ⟨h1, p1⟩ ⟨h2, p2⟩ ⟨h3, p3⟩ il1 il2 il3 fun v1 v2 v3 h1' tk e1 e2 e3 zn TOn sn1 sn2 sn3 hT hsz hk => ?_
    have ee1 : v1 = w1 := by
      rw [List.getElem?_toArray, hw1] at e1
      exact (Option.some.inj e1).symm
    subst ee1
    have ee2 : v2 = w2 := by
      rw [List.getElem?_toArray, hw2] at e2
      exact (Option.some.inj e2).symm
    subst ee2
    have ee3 : v3 = w3 := by
      rw [List.getElem?_toArray, hw3] at e3
      exact (Option.some.inj e3).symm
    subst ee3
    refine ⟨_, rfl, wpAny_letOwnedTupleGo_zip (s := { s with heap := h1', toks := tk }) zn fun h2' zm sb => ?_⟩
    have T2 : h2'.get? s.heap.objs.size = some { cls := .type "tuple", data := .seq #[v1, v2, v3] } := (sb.2 _ (Nat.ne_of_gt zl)).trans hT
    have mk : ObjOk X.prog X.w (upd H s.heap.objs.size (.tup [x, y, u])) h2' s.heap.objs.size (.tup [x, y, u]) := ⟨by show 3 ≤ sizeLine; decide, [v1, v2, v3], .cons rw1 (.cons rw2 (.cons rw3 (.nil))), ⟨_, T2, rfl, _, rfl⟩⟩
    have J : Inv X pins σ (upd H s.heap.objs.size (.tup [x, y, u])) { s with heap := h2', toks := tk } :=
      I.turnedNew (t' := tk) (ch := [z, TI, TO, i1, i2, i3]) (fun e o hb q => by
        have m : ¬ (e = z ∨ e = TI ∨ e = TO ∨ e = i1 ∨ e = i2 ∨ e = i3) := by simpa using hb
        simp only [not_or] at m
        obtain ⟨m0, m9, mT, m1, m2, m3⟩ := m
        exact (sb.2 e m0).trans (hk e o m0 mT m1 m2 m3 q)) hf (Nat.le_refl _) mk
    refine ⟨.ref s.heap.objs.size, _, J, rfl, ⟨_, x, y, u, rfl, I.hok.fresh (Nat.le_refl _), rfl, fun m hm => by rw [inv_sqK_inj I hm q1]; exact g1, fun m hm => by rw [inv_sqK_inj I hm q2]; exact g2, fun m hm => by rw [inv_sqK_inj I hm q3]; exact g3⟩, ⟨zm, (sb.2 _ S.TIz).trans (hk _ _ S.TIz S.TITO S.TIi1 S.TIi2 S.TIi3 hTI), ⟨_, _, _, (sb.2 _ S.TOz).trans TOn⟩, sn1.1.fits fun o e => (sb.2 _ S.zi1.symm).trans e, sn2.1.fits fun o e => (sb.2 _ S.zi2.symm).trans e, sn3.1.fits fun o e => (sb.2 _ S.zi3.symm).trans e⟩, fun e he => ?_⟩
    have le : e < s.heap.objs.size := by
      have he' : e = z ∨ e = TI ∨ e = TO ∨ e = i1 ∨ e = i2 ∨ e = i3 := by simpa using he
      rcases he' with rfl | rfl | rfl | rfl | rfl | rfl
      · exact zl
      · exact Heap.lt_size hTI
      · exact Heap.lt_size hTO
      · obtain ⟨o, eo, _⟩ := h1.obj
        exact Heap.lt_size eo
      · obtain ⟨o, eo, _⟩ := h2.obj
        exact Heap.lt_size eo
      · obtain ⟨o, eo, _⟩ := h3.obj
        exact Heap.lt_size eo
    rw [upd_ne (Nat.ne_of_lt le)]
    exact (hf e he).1
  done := by
    intro X hP hw hK hc i pins s σ H E I hf st hg
    subst hP hw hK
    obtain ⟨hz, hTI, ⟨t1, t2, t3, hTO⟩, h1, h2, h3⟩ := st
    obtain ⟨xs, ys, us, q1, q2, q3, g1, g2, g3, gend⟩ := hg
    obtain ⟨its1, rv1, p1, lt1⟩ := inv_sqK I q1
    have D1 := draws_k (prog := X.prog) (w := X.w) (A := X.A.in1) j (show X.A.in1.handled = none from I.ok.hd hc) i1 a n1 its1.toArray
    have len1 := rv1.length
    obtain ⟨its2, rv2, p2, lt2⟩ := inv_sqK I q2
    have D2 := draws_k (prog := X.prog) (w := X.w) (A := X.A.in1) k (show X.A.in1.handled = none from I.ok.hd hc) i2 b n2 its2.toArray
    have len2 := rv2.length
    obtain ⟨its3, rv3, p3, lt3⟩ := inv_sqK I q3
    have D3 := draws_k (prog := X.prog) (w := X.w) (A := X.A.in1) l (show X.A.in1.handled = none from I.ok.hd hc) i3 c n3 its3.toArray
    have len3 := rv3.length
    refine wpAny_pyNext_zipD3_end S D1 D2 D3 hz hTI hTO ⟨h1, p1⟩ ⟨h2, p2⟩ ⟨h3, p3⟩ (by rw [List.size_toArray]; omega) (by rw [List.size_toArray]; omega) (by rw [List.size_toArray]; omega) (by simp only [List.size_toArray]; omega) fun h1' tk hk => ⟨rfl, I.turnedL (t' := tk) (ch := [z, TI, TO, i1, i2, i3]) (fun e o hb q => ?_) hf⟩
    have m : ¬ (e = z ∨ e = TI ∨ e = TO ∨ e = i1 ∨ e = i2 ∨ e = i3) := by simpa using hb
    simp only [not_or] at m
    obtain ⟨m0, m9, mT, m1, m2, m3⟩ := m
    exact hk e o m0 mT m1 m2 m3 q
  self := fun A i s Q E st h => wpAny_pyIter_zip st.1 h
def iZip3M (K : PySem.W.Frag) (ta : TA) : TI := fun σ H R => ta σ H fun vs H1 => ∃ j k l a b c xs ys us, vs = [.ref a, .ref b, .ref c] ∧ SqK j K H1 a xs ∧ SqK k K H1 b ys ∧ SqK l K H1 c us ∧ R (ItZ3 j k l K a b c) H1
theorem pi_zip3M {X : Cx} {e e2 e3 : Expr} {ta : TA} {p pos tpos : Pos} {elts : List Expr} {kk : Nat} (hg : Gl X "zip") (hm : X.mg "zip" = none) (ha : PA X [e, e2, e3] ta) (hs : starEach [e, e2, e3] X.env = (false, eval e X.env) :: starEach [e2, e3] X.env)
    (hpl : (backTo pos (starEach [e2, e3] X.env)).any (·.1) = false) : PI X (.Tuple elts kk tpos) (.Call (.Name "zip" p) [e, e2, e3] [] pos) (iZip3M X.K ta) := by
  refine ⟨fun pins s σ H R I h => Call_ (ld_blt I hg hm PyProof.Rows.boot_zip (PyProof.Rows.callWith_type1 (thn (ha.run pos pins s σ H _ I h) fun us s1 ⟨vs, H1, I1, r1, q0⟩ => ?_) hs hpl))⟩
  obtain ⟨j, k, l, a, b, c, xs, ys, us, rfl, q1, q2, q3, qR⟩ := q0
  cases r1 with | cons r1 rr =>
  cases rr with | cons r2 rr =>
  cases rr with | cons r3 rr =>
  cases rr
  cases r1
  cases r2
  cases r3
  obtain ⟨its1, rv1, p1, lt1⟩ := inv_sqK I1 q1
  obtain ⟨its2, rv2, p2, lt2⟩ := inv_sqK I1 q2
  obtain ⟨its3, rv3, p3, lt3⟩ := inv_sqK I1 q3
  refine zip_begins3 (begins_k j a its1.toArray) (begins_k k b its2.toArray) (begins_k l c its3.toArray) p1 p2 p3 fun h' hz hTI hTO o1 o2 o3 hsz hk => wpAny_pyIter_zip hz ?_
  refine ⟨s1.heap.objs.size + 5, [s1.heap.objs.size + 5, s1.heap.objs.size + 3, s1.heap.objs.size + 4, s1.heap.objs.size, s1.heap.objs.size + 1, s1.heap.objs.size + 2], _, _, H1, rfl, I1.kept (t' := s1.toks) hk, turn_z3 (sep3_of lt1 lt2 lt3) (Nat.ne_of_lt lt1) (Nat.ne_of_lt (Nat.lt_succ_of_lt lt2)) (Nat.ne_of_lt (Nat.lt_succ_of_lt (Nat.lt_succ_of_lt lt3))), ⟨hz, hTI, ⟨_, _, _, hTO⟩, AtIt.new o1, AtIt.new o2, AtIt.new o3⟩, fun e he => ?_, qR⟩
  have le : s1.heap.objs.size ≤ e := mem_le (m := 0) (ds := [5, 3, 4, 0, 1, 2]) he
  exact I1.fpOk le (I1.hok.fresh le)

def zip3D : List D → List D → List D → List D
  | d :: ds, e :: es, f :: fs => .tup [d, e, f] :: zip3D ds es fs
  | _, _, _ => []
theorem zip3D_get : ∀ {ds es fs : List D} {i : Nat} {x : D}, (zip3D ds es fs)[i]? = some x → ∃ d e f, ds[i]? = some d ∧ es[i]? = some e ∧ fs[i]? = some f ∧ x = .tup [d, e, f]
  | d :: ds, e :: es, f :: fs, 0, x, h => by
    simp only [zip3D, List.getElem?_cons_zero, Option.some.injEq] at h
    exact ⟨d, e, f, rfl, rfl, rfl, h.symm⟩
  | d :: ds, e :: es, f :: fs, i + 1, x, h => by
    simp only [zip3D, List.getElem?_cons_succ] at h
    obtain ⟨d', e', f', h1, h2, h3, h4⟩ := zip3D_get h
    exact ⟨d', e', f', by simpa using h1, by simpa using h2, by simpa using h3, h4⟩
  | [], es, fs, i, x, h => by simp [zip3D] at h
  | _ :: _, [], fs, i, x, h => by simp [zip3D] at h
  | _ :: _, _ :: _, [], i, x, h => by simp [zip3D] at h
theorem zip3D_len : ∀ {ds es fs : List D}, (zip3D ds es fs).length = min (min ds.length es.length) fs.length
  | d :: ds, e :: es, f :: fs => by
    simp only [zip3D, List.length_cons]
    rw [zip3D_len]
    omega
  | [], es, fs => by simp [zip3D]
  | _ :: _, [], fs => by simp [zip3D]
  | _ :: _, _ :: _, [] => by simp [zip3D]
section
variable {g : G} {X : Cx} {W : WX} {e : Expr} {m : ME} {F0 : Hp} {p pos : Pos}
theorem SqK.mono {k : Bool} {K : PySem.W.Frag} {F F' : Hp} {a : Addr} {xs : List V} (e : Same F F') (h : SqK k K F a xs) : SqK k K F' a xs := by
  cases k
  · exact e.seq (show SqL K F a xs from h)
  · exact seqT_mono e (show SqT K F a xs from h)
theorem sqK_rep {F : Hp} {d : D} {ds : List D} {v : V} (hd : seqOf d = some ds) (r : Rep g F d v) : ∃ k a xs, v = .ref a ∧ SqK k g.K F a xs ∧ Reps g F ds xs := by
  unfold seqOf at hd
  split at hd
  · cases hd
    unfold Rep at r
    obtain ⟨a, vs, e, h1, h2⟩ := r
    exact ⟨false, a, vs, e, SqL.of h1, h2⟩
  · cases hd
    unfold Rep at r
    obtain ⟨a, vs, e, h1, h2⟩ := r
    exact ⟨true, a, vs, e, h1, h2⟩
  · cases hd
theorem jok_z2 {j k : Bool} {a b : Addr} {xs ys : List V} {ds es : List D} (h : SqK j g.K F0 a xs) (r : Reps g F0 ds xs) (h' : SqK k g.K F0 b ys) (r' : Reps g F0 es ys) : JOk g (ItZ2 j k g.K a b) F0 (zipD ds es) := by
  intro F as μ H e sr i
  have q := (h.mono e).mono sr.sub
  have q' := (h'.mono e).mono sr.sub
  refine ⟨fun hi => ⟨xs, ys, q, q', ?_⟩, fun d hd => ?_⟩
  · rw [zipD_len] at hi
    rw [r.length, r'.length]
    omega
  obtain ⟨d1, d2, k1, k2, rfl⟩ := zipD_get hd
  obtain ⟨v, h1, h2⟩ := r.get k1
  obtain ⟨u, h3, h4⟩ := r'.get k2
  refine ⟨⟨xs, ys, v, u, q, q', h1, h3⟩, fun x H' ⟨T, x', y', e1, e2, e3, e4, e5⟩ => ?_⟩
  subst e1 e3
  have z1 := e4 xs q
  have z2 := e5 ys q'
  rw [h1] at z1
  rw [h3] at z2
  cases z1
  cases z2
  obtain ⟨sr', xx, yy⟩ := sr.frozen (o := .tup [v, u]) e2
  refine ⟨_, xx, sr', ?_⟩
  unfold Rep
  exact ⟨T, _, rfl, SqT.of yy, Reps.cons ((h2.mono e).mono xx.1) (Reps.cons ((h4.mono e).mono xx.1) Reps.nil)⟩
theorem jok_z3 {j k l : Bool} {a b c : Addr} {xs ys us : List V} {ds es fs : List D} (h : SqK j g.K F0 a xs) (r : Reps g F0 ds xs) (h' : SqK k g.K F0 b ys) (r' : Reps g F0 es ys) (h'' : SqK l g.K F0 c us) (r'' : Reps g F0 fs us) : JOk g (ItZ3 j k l g.K a b c) F0 (zip3D ds es fs) := by
  intro F as μ H e sr i
  have q := (h.mono e).mono sr.sub
  have q' := (h'.mono e).mono sr.sub
  have q'' := (h''.mono e).mono sr.sub
  refine ⟨fun hi => ⟨xs, ys, us, q, q', q'', ?_⟩, fun d hd => ?_⟩
  · rw [zip3D_len] at hi
    rw [r.length, r'.length, r''.length]
    omega
  obtain ⟨d1, d2, d3, k1, k2, k3, rfl⟩ := zip3D_get hd
  obtain ⟨v, h1, h2⟩ := r.get k1
  obtain ⟨u, h3, h4⟩ := r'.get k2
  obtain ⟨t, h5, h6⟩ := r''.get k3
  refine ⟨⟨xs, ys, us, v, u, t, q, q', q'', h1, h3, h5⟩, fun x H' ⟨T, x', y', u', e1, e2, e3, e4, e5, e6⟩ => ?_⟩
  subst e1 e3
  have z1 := e4 xs q
  have z2 := e5 ys q'
  have z3 := e6 us q''
  rw [h1] at z1
  rw [h3] at z2
  rw [h5] at z3
  cases z1
  cases z2
  cases z3
  obtain ⟨sr', xx, yy⟩ := sr.frozen (o := .tup [v, u, t]) e2
  refine ⟨_, xx, sr', ?_⟩
  unfold Rep
  exact ⟨T, _, rfl, SqT.of yy, Reps.cons ((h2.mono e).mono xx.1) (Reps.cons ((h4.mono e).mono xx.1) (Reps.cons ((h6.mono e).mono xx.1) Reps.nil))⟩
/-- several things as sequences -/
def seqsOf (μ : Sto) : List S → Option (List (List D) × Sto)
  | [] => some ([], μ)
  | s :: ss => match toD μ (rt s) with
    | some (d, μ1) => (match seqOf d, seqsOf μ1 ss with
      | some ds, some (r, μ2) => some (ds :: r, μ2)
      | _, _ => none)
    | none => none
inductive SqReps (g : G) (F : Hp) : List (List D) → List V → Prop
  | nil : SqReps g F [] []
  | cons {ds : List D} {r : List (List D)} {k : Bool} {a : Addr} {xs vs : List V} (h : SqK k g.K F a xs) (q : Reps g F ds xs) (t : SqReps g F r vs) : SqReps g F (ds :: r) (.ref a :: vs)
theorem seqsOf_rs {as : List Addr} {H : Hp} : ∀ {ss : List S} {vs : List V} {F : Hp} {μ μ' : Sto} {r : List (List D)}, SR g F as μ H → RSs g F as ss vs → seqsOf μ ss = some (r, μ') → ∃ F', Ext F as F' as ∧ SR g F' as μ' H ∧ SqReps g F' r vs
  | [], _, F, μ, μ', r, sr, h, e => by
    cases h
    cases e
    exact ⟨F, .refl, sr, .nil⟩
  | s :: ss, _, F, μ, μ', r, sr, .cons h t, e => by
    unfold seqsOf at e
    split at e
    · rename_i d μ1 hd
      split at e
      · rename_i ds r2 μ2 h1 h2
        cases e
        obtain ⟨F1, x1, sr1, rs1⟩ := root_ok sr h.ra
        obtain ⟨F2, x2, sr2, q2⟩ := toD_rs sr1 rs1 hd
        obtain ⟨F3, x3, sr3, q3⟩ := seqsOf_rs sr2 (RSs.mono (x1.trans x2) t) h2
        obtain ⟨k, a, xs, rfl, k1, k2⟩ := sqK_rep h1 q2
        exact ⟨F3, (x1.trans x2).trans x3, sr3, .cons (k1.mono x3.1) (k2.mono x3.1) q3⟩
      · cases e
    · cases e
def finZM2 (ss : List S) (μ : Sto) : Option (Except Ex (List D) × Sto) := match seqsOf μ ss with
  | some ([ds, es], μ1) => some (.ok (zipD ds es), μ1)
  | _ => none
def finZM3 (ss : List S) (μ : Sto) : Option (Except Ex (List D) × Sto) := match seqsOf μ ss with
  | some ([ds, es, fs], μ1) => some (.ok (zip3D ds es fs), μ1)
  | _ => none
def iZipM2 (a b : ME) : MI := fun ρ μ => andThen (mArgs [a, b] ρ μ) finZM2
def iZipM3 (a b c : ME) : MI := fun ρ μ => andThen (mArgs [a, b, c] ρ μ) finZM3
theorem si_zipM2 {e2 : Expr} {m2 : ME} {elts : List Expr} {kk : Nat} {tpos : Pos} (hK : g.K = X.K) (hg : Gl X "zip") (hm : X.mg "zip" = none) (hn : notStar e = true) (hn2 : notStar e2 = true) (ha : SE g X W e m) (hb : SE g X W e2 m2) :
    SI g X W (.Tuple elts kk tpos) (.Call (.Name "zip" p) [e, e2] [] pos) (iZipM2 m m2) := by
  refine ⟨fun F as ρ μ σ H R r μ' h sr er post => wI (pi_zip2M hg hm pa_wp (by rw [starEach_cons hn]) (starEach_plain (by rw [List.all_cons, hn2]; rfl))) ?_⟩
  refine (sa_cons hn ha (sa_cons hn2 hb sa_nil)).then_ (show andThen _ _ = some (r, μ') from h) sr er (fun x e => by subst e; exact post) fun ss μ1 F1 as1 vs H1 h1 x1 sr1 er1 rs1 => ?_
  unfold finZM2 at h1
  split at h1
  · rename_i ds es μ2 hr
    cases h1
    obtain ⟨F2, x2, sr2, q⟩ := seqsOf_rs sr1 rs1 hr
    cases q with | cons k1 r1 t =>
    cases t with | cons k2 r2 t =>
    cases t
    exact ⟨_, _, _, _, _, _, rfl, hK ▸ k1.mono sr2.sub, hK ▸ k2.mono sr2.sub, by rw [← hK]; exact post F2 as1 H1 _ (x1.trans x2) sr2 (jok_z2 k1 r1 k2 r2)⟩
  · cases h1
theorem si_zipM3 {e2 e3 : Expr} {m2 m3 : ME} {elts : List Expr} {kk : Nat} {tpos : Pos} (hK : g.K = X.K) (hg : Gl X "zip") (hm : X.mg "zip" = none) (hn : notStar e = true) (hn2 : notStar e2 = true) (hn3 : notStar e3 = true) (ha : SE g X W e m) (hb : SE g X W e2 m2) (hc : SE g X W e3 m3) :
    SI g X W (.Tuple elts kk tpos) (.Call (.Name "zip" p) [e, e2, e3] [] pos) (iZipM3 m m2 m3) := by
  refine ⟨fun F as ρ μ σ H R r μ' h sr er post => wI (pi_zip3M hg hm pa_wp (by rw [starEach_cons hn]) (starEach_plain (by rw [List.all_cons, List.all_cons, hn2, hn3]; rfl))) ?_⟩
  refine (sa_cons hn ha (sa_cons hn2 hb (sa_cons hn3 hc sa_nil))).then_ (show andThen _ _ = some (r, μ') from h) sr er (fun x e => by subst e; exact post) fun ss μ1 F1 as1 vs H1 h1 x1 sr1 er1 rs1 => ?_
  unfold finZM3 at h1
  split at h1
  · rename_i ds es fs μ2 hr
    cases h1
    obtain ⟨F2, x2, sr2, q⟩ := seqsOf_rs sr1 rs1 hr
    cases q with | cons k1 r1 t =>
    cases t with | cons k2 r2 t =>
    cases t with | cons k3 r3 t =>
    cases t
    exact ⟨_, _, _, _, _, _, _, _, _, rfl, hK ▸ k1.mono sr2.sub, hK ▸ k2.mono sr2.sub, hK ▸ k3.mono sr2.sub, by rw [← hK]; exact post F2 as1 H1 _ (x1.trans x2) sr2 (jok_z3 k1 r1 k2 r2 k3 r3)⟩
  · cases h1
end
end Sz

set_option Elab.async false
set_option linter.all false
set_option maxRecDepth 100000
set_option maxHeartbeats 4000000
/-! Sz S: == of plain data. -/
namespace Sz
open PySem PySem.Spec L2
mutual
/-- numbers, texts, None, tuples and lists of these -/
def plainD : D → Bool
  | .non => true
  | .int _ => true
  | .str s => PyData.canLay0 (.str s)
  | .tup ds => plainDs ds
  | .lst ds => plainDs ds
  | _ => false
def plainDs : List D → Bool
  | [] => true
  | d :: ds => plainD d && plainDs ds
end
mutual
def depthD : D → Nat
  | .tup ds => depthDs ds + 1
  | .lst ds => depthDs ds + 1
  | _ => 0
def depthDs : List D → Nat
  | [] => 0
  | d :: ds => max (depthD d) (depthDs ds)
end
mutual
theorem plain_py : ∀ {d : D}, plainD d = true → ∃ p, toPy d = some p ∧ p.canLay0 = true ∧ p.depth = depthD d
  | .non, _ => ⟨_, rfl, rfl, rfl⟩
  | .int _, _ => ⟨_, rfl, rfl, rfl⟩
  | .str s, h => ⟨.str s, rfl, h, rfl⟩
  | .tup ds, h => by
    obtain ⟨ps, h1, h2, h3⟩ := plains_py (ds := ds) (by unfold plainD at h; exact h)
    exact ⟨.tuple ps, by unfold toPy; rw [h1], by unfold PyData.canLay0; exact h2, by unfold PyData.depth depthD; rw [h3]⟩
  | .lst ds, h => by
    obtain ⟨ps, h1, h2, h3⟩ := plains_py (ds := ds) (by unfold plainD at h; exact h)
    exact ⟨.list ps, by unfold toPy; rw [h1], by unfold PyData.canLay0; exact h2, by unfold PyData.depth depthD; rw [h3]⟩
  | .bl _, h => by cases h
  | .ty _, h => by cases h
  | .obj _ _, h => by cases h
  | .fn _, h => by cases h
  | .cls _, h => by cases h
  | .scr _, h => by cases h
  | .dic _ _, h => by cases h
  | .exc _ _, h => by cases h
theorem plains_py : ∀ {ds : List D}, plainDs ds = true → ∃ ps, toPys ds = some ps ∧ PyData.canLayAll0 ps = true ∧ PyData.depthAll ps = depthDs ds
  | [], _ => ⟨[], rfl, rfl, rfl⟩
  | d :: ds, h => by
    unfold plainDs at h
    rw [Bool.and_eq_true] at h
    obtain ⟨p, h1, h2, h3⟩ := plain_py h.1
    obtain ⟨ps, h4, h5, h6⟩ := plains_py h.2
    refine ⟨p :: ps, by unfold toPys; rw [h1, h4], by unfold PyData.canLayAll0; rw [h2, h5]; rfl, ?_⟩
    unfold PyData.depthAll depthDs
    rw [h3, h6]
end
mutual
theorem eqv_plain : ∀ {x y : D} {p q : PyData}, plainD x = true → plainD y = true → toPy x = some p → toPy y = some q → (PyData.eqv p q = true ↔ x = y)
  | x, y, p, q, hx, hy, ex, ey => by
    cases x with
    | non => cases ex; cases y with
      | non => cases ey; simp [PyData.eqv]
      | int _ => cases ey; simp [PyData.eqv]
      | str _ => cases ey; simp [PyData.eqv]
      | tup ds => unfold toPy at ey; split at ey <;> cases ey; simp [PyData.eqv]
      | lst ds => unfold toPy at ey; split at ey <;> cases ey; simp [PyData.eqv]
      | _ => cases hy
    | int i => cases ex; cases y with
      | non => cases ey; simp [PyData.eqv]
      | int _ => cases ey; simp [PyData.eqv]
      | str _ => cases ey; simp [PyData.eqv]
      | tup ds => unfold toPy at ey; split at ey <;> cases ey; simp [PyData.eqv]
      | lst ds => unfold toPy at ey; split at ey <;> cases ey; simp [PyData.eqv]
      | _ => cases hy
    | str i => cases ex; cases y with
      | non => cases ey; simp [PyData.eqv]
      | int _ => cases ey; simp [PyData.eqv]
      | str _ => cases ey; simp [PyData.eqv]
      | tup ds => unfold toPy at ey; split at ey <;> cases ey; simp [PyData.eqv]
      | lst ds => unfold toPy at ey; split at ey <;> cases ey; simp [PyData.eqv]
      | _ => cases hy
    | tup ds =>
      unfold toPy at ex
      split at ex <;> cases ex
      rename_i ps e1
      have hx' : plainDs ds = true := by unfold plainD at hx; exact hx
      cases y with
      | non => cases ey; simp [PyData.eqv]
      | int _ => cases ey; simp [PyData.eqv]
      | str _ => cases ey; simp [PyData.eqv]
      | tup es =>
        unfold toPy at ey
        split at ey <;> cases ey
        rename_i qs e2
        have := eqvs_plain hx' (by unfold plainD at hy; exact hy) e1 e2
        unfold PyData.eqv
        rw [this]
        simp
      | lst ds => unfold toPy at ey; split at ey <;> cases ey; simp [PyData.eqv]
      | _ => cases hy
    | lst ds =>
      unfold toPy at ex
      split at ex <;> cases ex
      rename_i ps e1
      have hx' : plainDs ds = true := by unfold plainD at hx; exact hx
      cases y with
      | non => cases ey; simp [PyData.eqv]
      | int _ => cases ey; simp [PyData.eqv]
      | str _ => cases ey; simp [PyData.eqv]
      | lst es =>
        unfold toPy at ey
        split at ey <;> cases ey
        rename_i qs e2
        have := eqvs_plain hx' (by unfold plainD at hy; exact hy) e1 e2
        unfold PyData.eqv
        rw [this]
        simp
      | tup ds => unfold toPy at ey; split at ey <;> cases ey; simp [PyData.eqv]
      | _ => cases hy
    | _ => cases hx
theorem eqvs_plain : ∀ {xs ys : List D} {ps qs : List PyData}, plainDs xs = true → plainDs ys = true → toPys xs = some ps → toPys ys = some qs → (PyData.eqvAll ps qs = true ↔ xs = ys)
  | [], [], ps, qs, _, _, ex, ey => by cases ex; cases ey; simp [PyData.eqvAll]
  | [], y :: ys, ps, qs, _, _, ex, ey => by
    cases ex
    unfold toPys at ey
    split at ey <;> cases ey
    simp [PyData.eqvAll]
  | x :: xs, [], ps, qs, _, _, ex, ey => by
    cases ey
    unfold toPys at ex
    split at ex <;> cases ex
    simp [PyData.eqvAll]
  | x :: xs, y :: ys, ps, qs, hx, hy, ex, ey => by
    unfold toPys at ex ey
    split at ex <;> cases ex
    rename_i p ps' e1 e2
    split at ey <;> cases ey
    rename_i q qs' e3 e4
    unfold plainDs at hx hy
    rw [Bool.and_eq_true] at hx hy
    unfold PyData.eqvAll
    rw [Bool.and_eq_true, eqv_plain hx.1 hy.1 e1 e3, eqvs_plain hx.2 hy.2 e2 e4]
    simp
end
open Classical in
theorem pyEq_plain {x y : D} (hx : plainD x = true) (hy : plainD y = true) (dx : depthD x ≤ 64) (dy : depthD y ≤ 64) : pyEq x y = some (decide (x = y)) := by
  obtain ⟨p, h1, h2, h3⟩ := plain_py hx
  obtain ⟨q, h4, h5, h6⟩ := plain_py hy
  unfold pyEq
  rw [h1, h4]
  have s1 : SeqAt.shaped p = true := by unfold SeqAt.shaped; rw [h2, h3]; simpa using dx
  have s2 : SeqAt.shaped q = true := by unfold SeqAt.shaped; rw [h5, h6]; simpa using dy
  dsimp only
  rw [s1, s2]
  show some (PyData.eqv p q) = _
  have := eqv_plain hx hy h1 h4
  congr 1
  rw [Bool.eq_iff_iff, this, decide_eq_true_eq]
open Classical in
theorem eq_plain {x y : D} (hx : plainD x = true) (hy : plainD y = true) (dx : depthD x ≤ 64 := by decide) (dy : depthD y ≤ 64 := by decide) : dEq x y = some (.val (.bl (decide (x = y)))) := by
  unfold dEq
  split
  · congr 3
    simp
  · rw [pyEq_plain hx hy dx dy]
open Classical in
theorem ne_plain {x y : D} (hx : plainD x = true) (hy : plainD y = true) (dx : depthD x ≤ 64 := by decide) (dy : depthD y ≤ 64 := by decide) : dNe x y = some (.val (.bl (!decide (x = y)))) := by
  unfold dNe
  split
  · congr 3
    simp
  · rw [pyEq_plain hx hy dx dy]
theorem plainDs_iff : ∀ {ds : List D}, plainDs ds = true ↔ ∀ d ∈ ds, plainD d = true
  | [] => by simp [plainDs]
  | d :: ds => by
    unfold plainDs
    rw [Bool.and_eq_true, plainDs_iff]
    simp
theorem depthDs_le {n : Nat} : ∀ {ds : List D}, depthDs ds ≤ n ↔ ∀ d ∈ ds, depthD d ≤ n
  | [] => by simp [depthDs]
  | d :: ds => by
    unfold depthDs
    rw [Nat.max_le, depthDs_le]
    simp
theorem plain_tup {ds : List D} (h : ∀ d ∈ ds, plainD d = true) : plainD (.tup ds) = true := by unfold plainD; exact plainDs_iff.mpr h
theorem plain_lst {ds : List D} (h : ∀ d ∈ ds, plainD d = true) : plainD (.lst ds) = true := by unfold plainD; exact plainDs_iff.mpr h
theorem depth_tup {n : Nat} {ds : List D} (h : ∀ d ∈ ds, depthD d ≤ n) : depthD (.tup ds) ≤ n + 1 := by unfold depthD; exact Nat.succ_le_succ (depthDs_le.mpr h)
theorem depth_lst {n : Nat} {ds : List D} (h : ∀ d ∈ ds, depthD d ≤ n) : depthD (.lst ds) ≤ n + 1 := by unfold depthD; exact Nat.succ_le_succ (depthDs_le.mpr h)
theorem any_plain {x : D} {p : PyData} (hx : plainD x = true) (ep : toPy x = some p) : ∀ {ds : List D} {ps : List PyData}, plainDs ds = true → toPys ds = some ps → ((ps.any fun z => PyData.eqv z p) = true ↔ x ∈ ds)
  | [], ps, _, e => by cases e; simp
  | d :: ds, ps, h, e => by
    unfold toPys at e
    split at e <;> cases e
    rename_i q qs e1 e2
    unfold plainDs at h
    rw [Bool.and_eq_true] at h
    rw [List.any_cons, Bool.or_eq_true, eqv_plain h.1 hx e1 ep, any_plain hx ep h.2 e2, List.mem_cons]
    exact or_congr ⟨Eq.symm, Eq.symm⟩ Iff.rfl
open Classical in
theorem pyIn_plain {x : D} {ds : List D} (hx : plainD x = true) (hd : plainD (.lst ds) = true) (dx : depthD x ≤ 64) (dd : depthD (.lst ds) ≤ 64) : pyIn x (.lst ds) = some (decide (x ∈ ds)) := by
  obtain ⟨p, h1, h2, h3⟩ := plain_py hx
  have hd' : plainDs ds = true := by unfold plainD at hd; exact hd
  obtain ⟨ps, h4, h5, h6⟩ := plains_py hd'
  have e : pyIn x (.lst ds) = match toPy x, toPys ds with
    | some p, some ps => if SeqAt.shaped p && SeqAt.shaped (.list ps) then some (ps.any fun z => PyData.eqv z p) else none
    | _, _ => none := by cases x <;> rfl
  rw [e, h1, h4]
  have s1 : SeqAt.shaped p = true := by unfold SeqAt.shaped; rw [h2, h3]; simpa using dx
  have s2 : SeqAt.shaped (.list ps) = true := by
    unfold SeqAt.shaped PyData.canLay0 PyData.depth
    rw [h5, h6]
    unfold depthD at dd
    simpa using dd
  dsimp only
  rw [s1, s2]
  show some (ps.any fun z => PyData.eqv z p) = _
  have := any_plain hx h1 hd' h4
  congr 1
  rw [Bool.eq_iff_iff, this, decide_eq_true_eq]
open Classical in
theorem in_plain {x : D} {ds : List D} (hx : plainD x = true) (hd : plainD (.lst ds) = true) (dx : depthD x ≤ 64 := by decide) (dd : depthD (.lst ds) ≤ 64 := by decide) : dIn x (.lst ds) = some (.val (.bl (decide (x ∈ ds)))) := by
  unfold dIn
  rw [pyIn_plain hx hd dx dd]
  rfl
open Classical in
theorem notin_plain {x : D} {ds : List D} (hx : plainD x = true) (hd : plainD (.lst ds) = true) (dx : depthD x ≤ 64 := by decide) (dd : depthD (.lst ds) ≤ 64 := by decide) : dNotIn x (.lst ds) = some (.val (.bl (!decide (x ∈ ds)))) := by
  unfold dNotIn
  rw [pyIn_plain hx hd dx dd]
  rfl
/-- a text among texts -/
theorem inV_strs {z : Str} {zs : List Str} : inV (.str z) (zs.map V.str) = decide (z ∈ zs) := by
  unfold inV
  induction zs with
  | nil => simp
  | cons y ys ih =>
    rw [List.map_cons, List.any_cons, ih]
    show ((y == z) || _) = _
    by_cases h : y = z
    · simp [h]
    · simp [h, Ne.symm h]
theorem in_strs {z : Str} {zs : List Str} : dIn (.str z) (.tup (zs.map .str)) = some (.val (.bl (decide (z ∈ zs)))) := by
  unfold dIn pyIn
  dsimp only
  rw [flats_strs]
  show some (S.val (.bl (inV (.str z) (zs.map V.str)))) = _
  rw [inV_strs]
theorem notin_strs {z : Str} {zs : List Str} : dNotIn (.str z) (.tup (zs.map .str)) = some (.val (.bl (!decide (z ∈ zs)))) := by
  unfold dNotIn pyIn
  dsimp only
  rw [flats_strs]
  show some (S.val (.bl (!inV (.str z) (zs.map V.str)))) = _
  rw [inV_strs]
theorem any_map {α : Type} {f : α → Bool} {l : List α} : bAny [.lst (l.map fun x => .bl (f x))] = some (.val (.bl (l.any f))) := by
  show (bls? (l.map fun x => D.bl (f x))).map _ = _
  rw [bls_map]
  show some (S.val (.bl ((l.map f).any id))) = _
  rw [List.any_map]
  rfl
theorem all_map2 {α : Type} {f : α → Bool} {l : List α} : bAll [.lst (l.map fun x => .bl (f x))] = some (.val (.bl (l.all f))) := by
  rw [all_map, List.all_map]
  rfl
theorem lt_tt {ns ms : List Int} : dLt (.tup (ns.map .int)) (.tup (ms.map .int)) = some (.val (.bl (HT.lexLt ns ms))) := by
  unfold dLt
  dsimp only
  rw [ints_map, ints_map]
end Sz

set_option Elab.async false
set_option linter.all false
set_option maxRecDepth 100000
set_option maxHeartbeats 4000000
/-! Sz Z: lists by steps, max and min with a default. -/
namespace Sz
open PySem PySem.Spec PyProof.Rows L2

/-! ### xs[::e] -/
def stepL {α : Type} (n : Int) (xs : List α) : List α := (sliceRange (sliceBounds none none (some n) xs.length).1 (sliceBounds none none (some n) xs.length).2.1 (sliceBounds none none (some n) xs.length).2.2).filterMap (xs[·]?)
theorem stepL_mem {α : Type} {n : Int} {xs : List α} {x : α} (h : x ∈ stepL n xs) : x ∈ xs := by
  unfold stepL at h
  obtain ⟨i, _, h2⟩ := List.mem_filterMap.mp h
  exact List.mem_of_getElem? h2
theorem vals_pick {xs : List V} {us : List Value} (r : Vals xs us) : ∀ is : List Nat, Vals (is.filterMap (xs[·]?)) (is.filterMap (us[·]?))
  | [] => .nil
  | i :: is => by
    rw [List.filterMap_cons, List.filterMap_cons]
    have hl := r.length
    by_cases q : i < xs.length
    · obtain ⟨u, h1, h2⟩ := paired_get r (List.getElem?_eq_getElem q)
      rw [h1, List.getElem?_eq_getElem q]
      exact .cons h2 (vals_pick r is)
    · rw [List.getElem?_eq_none (by omega), List.getElem?_eq_none (by omega)]
      exact vals_pick r is
theorem reps_pick {g : G} {F : Hp} {ds : List D} {vs : List V} (r : Reps g F ds vs) : ∀ is : List Nat, Reps g F (is.filterMap (ds[·]?)) (is.filterMap (vs[·]?))
  | [] => Reps.nil
  | i :: is => by
    rw [List.filterMap_cons, List.filterMap_cons]
    have hl := r.length
    cases q : ds[i]? with
    | some d =>
      obtain ⟨v, h1, h2⟩ := r.get q
      rw [h1]
      exact Reps.cons h2 (reps_pick r is)
    | none =>
      have := List.getElem?_eq_none_iff.mp q
      rw [List.getElem?_eq_none (by omega)]
      exact reps_pick r is
theorem step_pick (n : Int) (its : List Value) : slicePick its.toArray none none (some n) = (stepL n its).toArray := by
  unfold slicePick stepL
  simp
theorem step_len (n : Int) (its : List Value) : (stepL n its).length ≤ its.length := by
  have := slicePick_size_le its.toArray none none (some n)
  rw [step_pick] at this
  simpa using this
def stepQ (K : PySem.W.Frag) (x : V) (Q : VK) : Option Int → Hp → Prop := fun o H => ∃ a n xs, x = .ref a ∧ o = some n ∧ n ≠ 0 ∧ SqL K H a xs ∧ ∀ p, H p = none → Q (.ref p) (upd H p (.lst (stepL n xs)))
def tStepL (K : PySem.W.Frag) (te : TE) (to : TO) : TE := fun σ H Q => te σ H fun x H1 => to σ H1 (stepQ K x Q)
theorem pe_stepL {X : Cx} {e st : Expr} {te : TE} {to : TO} {p3 pos : Pos} (he : PE X e te) (hst : PO X (some st) to) : PE X (.Subscript e (.Slice none none (some st) p3) pos) (tStepL X.K te to) := by
  refine ⟨fun pins s σ H Q I h => ?_⟩
  refine Subscript_ (thn (he.run pins s σ H _ I h) fun v s1 ⟨x, H1, I1, r1, h2⟩ => ?_)
  refine wpAny_Slice (thn (po_none.run pins s1 σ H1 (fun o H2 => o = none ∧ H2 = H1) I1 ⟨rfl, rfl⟩) fun vl s2 ⟨l, H2, I2, pl, el, e2⟩ => ?_)
  subst el e2
  refine thn (po_none.run pins s2 σ H2 (fun o H3 => o = none ∧ H3 = H2) I2 ⟨rfl, rfl⟩) fun vu s3 ⟨u, H3, I3, pu, eu, e3⟩ => ?_
  subst eu e3
  refine thn (hst.run pins s3 σ H3 _ I3 h2) fun vs s4 ⟨o, H4, I4, ps, q4⟩ => ?_
  obtain ⟨a, n, xs, ex, eo, hn, hx, q⟩ := q4
  subst eo ex
  cases r1
  have I5 : Inv X pins σ H4 { s4 with heap := s4.heap.push { cls := .type "slice", data := .fields #[vl, vu, vs] } } := I4.kept (t' := s4.toks) fun b ob q => Heap.get?_push_of_some _ q
  obtain ⟨its, r, ht, hz⟩ := I5.list hx
  have hlen := r.length
  show wpAny (model X.prog X.w) X.A (subscriptTail e (.Slice none none (some st) p3) (.ref a) (.ref s4.heap.objs.size)) (EP X pins σ Q) X.xe { s4 with heap := s4.heap.push { cls := .type "slice", data := .fields #[vl, vu, vs] } }
  refine tail_any (ops := [.ref a, .ref s4.heap.objs.size]) ht.isList.typeIs (PySem.slot_list_getitem.lookup) ?_ (by with_unfolding_all rfl)
  refine wpAny_getItem_list_slice ht.isList (Heap.IsSliceOf.new _ vl vu vs) pl pu ps (fun z => hn (Option.some.inj z)) ?_ (by rw [List.size_toArray]; omega)
  rw [step_pick]
  have hr : Vals (stepL n xs) (stepL n its) := by
    unfold stepL
    rw [hlen]
    exact vals_pick r _
  refine ⟨.ref _, _, I5.laid (t' := s4.toks) (o := .lst (stepL n xs)) (fun b ob q => Heap.get?_push_of_some _ q) (Nat.le_refl _) ?_, rfl, q _ (I5.hok.fresh (Nat.le_refl _))⟩
  exact ⟨by have := step_len n its; have := hr.length; omega, _, 0, hr, Heap.get?_push_size _ rfl⟩
def stepK (μ : Sto) : Option D → Option Int → Option R
  | some (.lst ds), some n => if n = 0 then none else some (.ok (.fr (stepL n ds)), μ)
  | _, _ => none
def mStepL (a : ME) (st : MO) : ME := fun ρ μ => andThen (a ρ μ) fun s μ1 => andThen (st ρ μ1) fun n μ2 => stepK μ2 (vw μ2 (rt s)) n
theorem reps_step {g : G} {F : Hp} {ds : List D} {vs : List V} {n : Int} (r : Reps g F ds vs) : Reps g F (stepL n ds) (stepL n vs) := by
  unfold stepL
  rw [r.length]
  exact reps_pick r _
theorem se_stepL {g : G} {X : Cx} {W : WX} {a st : Expr} {ma ms : ME} {pos p2 : Pos} (ha : SE g X W a ma) (hs : SE g X W st ms) : SE g X W (.Subscript a (.Slice none none (some st) p2) pos) (mStepL ma (oSome ms)) := by
  obtain ⟨tl, pl, rl⟩ := (so_some hs).ex
  refine ⟨fun F as ρ μ σ H Q r μ' h sr er post => wE (pe_stepL pe_wp pl) ?_⟩
  refine ha.then_ (show andThen _ _ = some (r, μ') from h) sr er (fun x e => by subst e; exact post) fun s μ1 F1 as1 v1 H1 h1 x1 sr1 er1 ra1 => ?_
  obtain ⟨F1', x1', sr1', rs1⟩ := root_ok sr1 ra1
  have er1' := er1.mono x1'
  rcases andThen_some h1 with ⟨x, e1, e2⟩ | ⟨l, μ2, e1, h2⟩
  · dsimp only at e1 e2
    subst e2
    exact rl F1' as1 ρ μ1 σ H1 _ (.error x) μ' e1 sr1' er1' (PErr.ext (x1.trans x1') post)
  refine rl F1' as1 ρ μ1 σ H1 _ (.ok l) μ2 e1 sr1' er1' fun F2 as2 H2 x2 sr2 => ?_
  have rs2 := rs1.mono x2
  have xx := (x1.trans x1').trans x2
  unfold stepK at h2
  split at h2
  · rename_i ds n hd
    split at h2
    · cases h2
    · rename_i hn
      cases h2
      obtain ⟨p, vs, rfl, hp, rv⟩ := vr_lst sr2 (view_rs sr2 rs2 hd)
      refine ⟨p, n, vs, rfl, rfl, hn, SqL.of hp, fun q hq => ?_⟩
      obtain ⟨sr4, f4, n4⟩ := sr2.loose (o := .lst (stepL n vs)) hq
      exact post F2 as2 (.ref q) _ xx sr4 (ra_lst upd_same f4 n4 (reps_step rv))
  · cases h2

/-! ### built-ins with keywords -/
def CallOkK (g : G) (X : Cx) (f : Value) (ks : List Str) (op : List D → List D → Option S) : Prop :=
  ∀ (xs zs : List D) (s : S) (F : Hp) (as : List Addr) (μ : Sto) (H : Hp) (vs ws : List V) (Q : VK), op xs zs = some s → SR g F as μ H → VRs g F H xs vs → VRs g F H zs ws →
    (∀ F' as' w H', Ext F as F' as' → SR g F' as' μ H' → RA g F' as' H' s w → Q w H') → ∀ (pins : List (Addr × Obj)) (st : Shared) (σ : L2.St) (us ts : List Value), Inv X pins σ H st → Vals vs us → Vals ws ts → wpAny (model X.prog X.w) X.A (call f us (ks.zip ts)) (EP X pins σ Q) X.xe st
def finBK (op : List D → List D → Option S) (ss ks : List S) (μ : Sto) : Option R := match vws μ ss, vws μ ks with
  | some xs, some zs => (match op xs zs with
    | some s => some (.ok s, μ)
    | none => none)
  | _, _ => none
def mCallBK (op : List D → List D → Option S) (ms kms : List ME) : ME := fun ρ μ => andThen (mArgs ms ρ μ) fun ss μ1 => andThen (mArgs kms ρ μ1) fun ks μ2 => finBK op ss ks μ2
section
variable {g : G} {X : Cx} {W : WX} {e : Expr} {es : List Expr} {kws : List Keyword} {ms kms : List ME} {pos p : Pos} {x : Str} {op : List D → List D → Option S} {id : String} {ks : List Str}
abbrev ccanK (X : Cx) (f : Value) (ks : List Str) : List V → List V → Hp → VK → Prop := fun vs ws H Q => ∀ (pins : List (Addr × Obj)) (st : Shared) (σ : L2.St) (us ts : List Value), Inv X pins σ H st → Vals vs us → Vals ws ts → wpAny (model X.prog X.w) X.A (call f us (ks.zip ts)) (EP X pins σ Q) X.xe st
theorem call_canK {f : Value} : CallRK X f ks (ccanK X f ks) := fun pins s σ H xs zs us ts Q I r1 r2 h => h pins s σ us ts I r1 r2
theorem se_callBK (ho : CallOkK g X (.builtin id) ks op) (hg : Gl X x) (hm : X.mg x = none) (hv : bootBuiltins x = some (.builtin id)) (hn : x ≠ "__name__") (hdb : (x == ("__debug__" : Str)) = false) (hst : (e :: es).all notStar = true)
    (hks : kwNames kws = some ks) (ha : SA g X W (e :: es) (mArgs ms)) (hk : SK g X W kws (mArgs kms)) : SE g X W (.Call (.Name x p) (e :: es) kws pos) (mCallBK op ms kms) := by
  rw [List.all_cons, Bool.and_eq_true] at hst
  obtain ⟨k1, k2, k3, k4⟩ := kw_all (env := X.env) (pos := pos) hks
  refine ⟨fun F as ρ μ σ H Q r μ' h sr er post => wE (pe_callBK call_canK hg hm hv pa_wp pk_wp hn hdb (by rw [starEach_cons hst.1]; rfl) ?_ k1 k3 k2) ?_⟩
  · rw [starEach_cons hst.1]
    show (false || _) = false
    rw [Bool.false_or]
    exact starEach_plain hst.2
  refine ha.then_ (show andThen _ _ = some (r, μ') from h) sr er (fun x e => by subst e; exact post) fun ss μ1 F1 as1 vs H1 h1 x1 sr1 er1 rs1 => ?_
  refine hk.then_ h1 sr1 er1 (fun x e => by subst e; exact PErr.ext x1 post) fun zs μ2 F2 as2 ws H2 h2 x2 sr2 er2 rs2 => ?_
  unfold finBK at h2
  split at h2
  · rename_i xs ys e1 e2
    split at h2
    · rename_i s e3
      cases h2
      exact ho xs ys s F2 as2 μ' H2 vs ws Q e3 sr2 (views_rs sr2 (rs1.mono x2) e1) (views_rs sr2 rs2 e2) fun F' as' w H' e' r' q => post F' as' w H' ((x1.trans x2).trans e') r' q
    · cases h2
  · cases h2
/-- max(xs, default=d), min(xs, default=d): whole numbers -/
def dflK (d : D) (f : Int → Int → Int) : Option (List Int) → Option S
  | some (n :: ns) => some (.val (.int (ns.foldl f n)))
  | some [] => (match d with
    | .non => some (.val .non)
    | .int i => some (.val (.int i))
    | _ => none)
  | none => none
def bDfl (f : Int → Int → Int) : List D → List D → Option S
  | [.lst ds], [d] => dflK d f (ints? ds)
  | _, _ => none
def rMaxD (K : PySem.W.Frag) : List V → List V → Hp → VK → Prop := fun vs ws H Q => ∃ (a : Addr) (ns : List Int) (z : V), vs = [V.ref a] ∧ ws = [z] ∧ SqL K H a (ns.map V.int) ∧ (ns = [] → Q z H) ∧ (∀ m ms, ns = m :: ms → Q (.int (ms.foldl max m)) H)
def rMinD (K : PySem.W.Frag) : List V → List V → Hp → VK → Prop := fun vs ws H Q => ∃ (a : Addr) (ns : List Int) (z : V), vs = [V.ref a] ∧ ws = [z] ∧ SqL K H a (ns.map V.int) ∧ (ns = [] → Q z H) ∧ (∀ m ms, ns = m :: ms → Q (.int (ms.foldl min m)) H)
theorem alike_ints (ns : List Int) : PySem.W.AlikeAll (ns.map PyData.int) := by
  constructor
  · intro x hx y hy
    obtain ⟨a, _, rfl⟩ := List.mem_map.mp hx
    obtain ⟨b, _, rfl⟩ := List.mem_map.mp hy
    rfl
  · intro x hx
    obtain ⟨a, _, rfl⟩ := List.mem_map.mp hx
    exact fun z => by cases z
theorem depth_ints : ∀ ns : List Int, PyData.depthAll (ns.map PyData.int) = 0
  | [] => rfl
  | n :: ns => by
    show max (PyData.depth (.int n)) (PyData.depthAll (ns.map PyData.int)) = 0
    rw [depth_ints ns]
    rfl
theorem cr_maxD (hc : X.calm = true) (hu : X.A.units + 64 < cLine) : CallRK X (.builtin "max") [Str.ofString "default"] (rMaxD X.K) := by
  intro pins s σ H vs zs us ts Q I r rz h
  obtain ⟨a, ns, z, rfl, rfl, hs, q0, q1⟩ := h
  obtain ⟨its, rv, hl, _⟩ := I.list hs
  rw [Vals.ref1 r]
  obtain ⟨w, rfl, e1⟩ := vals1 rz
  refine PySem.W.max_list_default (I.ok.hd hc) hl.isList (rv.ints.reads s.heap) (alike_ints ns) (by rw [depth_ints]; omega) (fun e h' tk hk => ?_) fun y ys i v h' tk bs e hi r hk => ?_
  · exact ⟨z, H, I.kept hk, e1, q0 (List.map_eq_nil_iff.mp e)⟩
  · cases ns with
    | nil => cases e
    | cons m ms =>
      injection e with e1 e2
      subst e1 e2
      rw [PySem.W.maxD_ints] at r
      cases r
      exact ⟨.int _, H, I.kept hk, ⟨_, rfl⟩, q1 m ms rfl⟩
theorem cr_minD (hc : X.calm = true) (hu : X.A.units + 64 < cLine) : CallRK X (.builtin "min") [Str.ofString "default"] (rMinD X.K) := by
  intro pins s σ H vs zs us ts Q I r rz h
  obtain ⟨a, ns, z, rfl, rfl, hs, q0, q1⟩ := h
  obtain ⟨its, rv, hl, _⟩ := I.list hs
  rw [Vals.ref1 r]
  obtain ⟨w, rfl, e1⟩ := vals1 rz
  refine PySem.W.min_list_default (I.ok.hd hc) hl.isList (rv.ints.reads s.heap) (alike_ints ns) (by rw [depth_ints]; omega) (fun e h' tk hk => ?_) fun y ys i v h' tk bs e hi r hk => ?_
  · exact ⟨z, H, I.kept hk, e1, q0 (List.map_eq_nil_iff.mp e)⟩
  · cases ns with
    | nil => cases e
    | cons m ms =>
      injection e with e1 e2
      subst e1 e2
      rw [PySem.W.minD_ints] at r
      cases r
      exact ⟨.int _, H, I.kept hk, ⟨_, rfl⟩, q1 m ms rfl⟩
theorem cck {f : Value} {r : List V → List V → Hp → VK → Prop} (h : CallRK X f ks r) {vs ws : List V} {H : Hp} {Q : VK} (q : r vs ws H Q) : ccanK X f ks vs ws H Q := fun pins s σ us ts I r1 r2 => h pins s σ H vs ws us ts Q I r1 r2 q
theorem dfl_run {f : Int → Int → Int} {ds : List D} {d : D} {s : S} {F : Hp} {as : List Addr} {μ : Sto} {H : Hp} {vs ws : List V} {Q : VK} (e : bDfl f [.lst ds] [d] = some s) (sr : SR g F as μ H) (hx : VRs g F H [.lst ds] vs) (hz : VRs g F H [d] ws)
    (k : ∀ F' as' w H', Ext F as F' as' → SR g F' as' μ H' → RA g F' as' H' s w → Q w H') :
    ∃ (a : Addr) (ns : List Int) (z : V), vs = [V.ref a] ∧ ws = [z] ∧ SqL X.K H a (ns.map V.int) ∧ (ns = [] → Q z H) ∧ (∀ m ms, ns = m :: ms → Q (.int (ms.foldl f m)) H) := by
  obtain ⟨v, rfl, h⟩ := vrs1 hx
  obtain ⟨z, rfl, h'⟩ := vrs1 hz
  obtain ⟨a, us, rfl, h1, h2⟩ := vr_lst sr h
  have e : dflK d f (ints? ds) = some s := e
  unfold dflK at e
  split at e
  · rename_i n ns hi
    cases e
    have e2 := ints_reps hi h2
    subst e2
    exact ⟨a, n :: ns, z, rfl, rfl, SqL.of h1, (fun z => by cases z), fun m ms em => by cases em; exact k F as _ H .refl sr ra_int⟩
  · rename_i hi
    have e2 := ints_reps hi h2
    subst e2
    refine ⟨a, [], z, rfl, rfl, SqL.of h1, (fun _ => ?_), fun m ms em => by cases em⟩
    split at e
    · cases e
      cases vr_non h'
      exact k F as _ H .refl sr ra_non
    · cases e
      cases vr_int h'
      exact k F as _ H .refl sr ra_int
    · cases e
  · cases e
theorem bDfl_form {f : Int → Int → Int} {xs zs : List D} {s : S} (e : bDfl f xs zs = some s) : ∃ ds d, xs = [.lst ds] ∧ zs = [d] := by
  unfold bDfl at e
  split at e
  · exact ⟨_, _, rfl, rfl⟩
  · cases e
theorem co_maxD (hc : X.calm = true) (hu : X.A.units + 64 < cLine) : CallOkK g X (.builtin "max") [Str.ofString "default"] (bDfl max) := by
  intro xs zs s F as μ H vs ws Q e sr hx hz k
  obtain ⟨ds, d, rfl, rfl⟩ := bDfl_form e
  exact cck (cr_maxD hc hu) (dfl_run e sr hx hz k)
theorem co_minD (hc : X.calm = true) (hu : X.A.units + 64 < cLine) : CallOkK g X (.builtin "min") [Str.ofString "default"] (bDfl min) := by
  intro xs zs s F as μ H vs ws Q e sr hx hz k
  obtain ⟨ds, d, rfl, rfl⟩ := bDfl_form e
  exact cck (cr_minD hc hu) (dfl_run e sr hx hz k)
end
section
variable {g : G} {P : Program} {w : World} {mg : Str → Option Value} {base : Heap} {k : Nat} {N : List Str} {sc : Scope} {own cm gb : Bool} {X : Cx} {W : WX} {frees globs : List Str} {x : Str}
theorem Ct.callBK {id : String} {op : List D → List D → Option S} {e : Expr} {es : List Expr} {kws : List Keyword} {ks : List Str} {p pos : Pos} {ms kms : List ME} (c : Ct g P w mg base k N sc own cm gb X W) (T : Tb g mg frees globs) (ho : CallOkK g X (.builtin id) ks op) (hg : glB sc x = true) (hf : frees.contains x = true)
    (hv : bootBuiltins x = some (.builtin id)) (hst : (e :: es).all notStar = true) (hks : kwNames kws = some ks) (ha : SA g X W (e :: es) (mArgs ms)) (hk : SK g X W kws (mArgs kms)) : SE g X W (.Call (.Name x p) (e :: es) kws pos) (mCallBK op ms kms) :=
  se_callBK ho (c.gl hg).1 (by rw [c.hmg]; exact T.fr x hf) hv (c.gl hg).2.2 (c.gl hg).2.1 hst hks ha hk
end
/-! ### reckoning -/
theorem mStepL_ap {a : ME} {st : MO} {ρ : En} {μ : Sto} : mStepL a st ρ μ = andThen (a ρ μ) fun s μ1 => andThen (st ρ μ1) fun n μ2 => stepK μ2 (vw μ2 (rt s)) n := Eq.trans rfl rfl
theorem stepK_lst {μ : Sto} {ds : List D} {n : Int} (h : n ≠ 0) : stepK μ (some (.lst ds)) (some n) = some (.ok (.fr (stepL n ds)), μ) := by
  unfold stepK
  dsimp only
  rw [if_neg h]
theorem mCallBK_ap {op : List D → List D → Option S} {ms kms : List ME} {ρ : En} {μ : Sto} : mCallBK op ms kms ρ μ = andThen (mArgs ms ρ μ) fun ss μ1 => andThen (mArgs kms ρ μ1) fun ks μ2 => finBK op ss ks μ2 := Eq.trans rfl rfl
def bK (op : List D → List D → Option S) : Option (List D) → Option (List D) → Option S
  | some xs, some zs => op xs zs
  | _, _ => none
theorem bK_some {op : List D → List D → Option S} {xs zs : List D} : bK op (some xs) (some zs) = op xs zs := Eq.trans rfl rfl
theorem finBK_ap {op : List D → List D → Option S} {ss ks : List S} {μ : Sto} : finBK op ss ks μ = fin2K μ (bK op (vws μ ss) (vws μ ks)) := by
  unfold finBK bK fin2K
  cases vws μ ss with
  | none => rfl
  | some xs =>
    cases vws μ ks with
    | none => rfl
    | some zs =>
      dsimp only
      all_goals (cases op xs zs <;> rfl)
/-! ### a list's things by their places -/
def enumA {α : Type} : Nat → List α → List (Nat × α)
  | _, [] => []
  | i, q :: qs => (i, q) :: enumA (i + 1) qs
theorem enumA_D {α : Type} (f : α → D) : ∀ (qs : List α) (i : Nat), enumD i (qs.map f) = (enumA i qs).map fun p => .tup [.int (p.1 : Int), f p.2]
  | [], _ => rfl
  | q :: qs, i => by
    rw [List.map_cons, enumD, enumA, List.map_cons, enumA_D f qs (i + 1)]
theorem enumA_len {α : Type} : ∀ {qs : List α} {i : Nat}, (enumA i qs).length = qs.length
  | [], _ => rfl
  | q :: qs, i => by rw [enumA, List.length_cons, List.length_cons, enumA_len]
theorem enumA_get {α : Type} : ∀ {qs : List α} {i j : Nat}, (enumA i qs)[j]? = qs[j]?.map fun x => (i + j, x)
  | [], _, _ => by rw [enumA, List.getElem?_nil, List.getElem?_nil]; rfl
  | q :: qs, i, 0 => rfl
  | q :: qs, i, j + 1 => by
    rw [enumA, List.getElem?_cons_succ, List.getElem?_cons_succ, enumA_get, Nat.add_right_comm, Nat.add_assoc]
theorem enumA_mem {α : Type} {qs : List α} {p : Nat × α} : p ∈ enumA 0 qs ↔ qs[p.1]? = some p.2 := by
  constructor
  · intro h
    obtain ⟨j, hj⟩ := List.getElem?_of_mem h
    rw [enumA_get] at hj
    obtain ⟨x, h1, rfl⟩ := Option.map_eq_some_iff.mp hj
    dsimp only
    rw [Nat.zero_add]
    exact h1
  · intro h
    refine List.mem_of_getElem? (i := p.1) ?_
    rw [enumA_get, h, Nat.zero_add]
    rfl
theorem enumA_sorted {α : Type} : ∀ {qs : List α} {i : Nat}, ((enumA i qs).map (·.1)).Pairwise (· < ·) ∧ ∀ p ∈ enumA i qs, i ≤ p.1
  | [], i => ⟨.nil, fun p h => by cases h⟩
  | q :: qs, i => by
    obtain ⟨h1, h2⟩ := enumA_sorted (qs := qs) (i := i + 1)
    refine ⟨List.pairwise_cons.mpr ⟨fun a ha => ?_, h1⟩, fun p hp => ?_⟩
    · obtain ⟨p, hp, rfl⟩ := List.mem_map.mp ha
      exact h2 p hp
    · rcases List.mem_cons.mp hp with rfl | hp
      · exact Nat.le_refl _
      · exact Nat.le_of_succ_le (h2 p hp)
theorem enumA_filter {α : Type} {qs : List α} {i : Nat} (p : Nat × α → Bool) : (((enumA i qs).filter p).map (·.1)).Pairwise (· < ·) :=
  (enumA_sorted (qs := qs) (i := i)).1.sublist (List.filter_sublist.map _)
/-! ### max and min of places -/
theorem foldl_min_first {n : Int} {ns : List Int} (h : ∀ y ∈ ns, n ≤ y) : ns.foldl min n = n := by
  obtain ⟨h1, h2⟩ := foldl_min_spec ns n
  have h3 := h2 n List.mem_cons_self
  rcases List.mem_cons.mp h1 with e | e
  · exact e
  · have := h _ e
    omega
theorem foldl_max_is {n m : Int} {ns : List Int} (hm : m ∈ n :: ns) (h : ∀ y ∈ n :: ns, y ≤ m) : ns.foldl max n = m := by
  obtain ⟨h1, h2⟩ := foldl_max_spec ns n
  have h3 := h2 m hm
  have h4 := h _ h1
  omega
theorem foldl_min_is {n m : Int} {ns : List Int} (hm : m ∈ n :: ns) (h : ∀ y ∈ n :: ns, m ≤ y) : ns.foldl min n = m := by
  obtain ⟨h1, h2⟩ := foldl_min_spec ns n
  have h3 := h2 m hm
  have h4 := h _ h1
  omega
theorem sorted_last : ∀ {l : List Nat} (h : l ≠ []), l.Pairwise (· < ·) → ∀ y ∈ l, y ≤ l.getLast h
  | [x], _, _, y, hy => by rw [List.mem_singleton] at hy; rw [hy]; exact Nat.le_refl _
  | x :: z :: l, _, hp, y, hy => by
    rw [List.getLast_cons (by simp)]
    have h2 := sorted_last (l := z :: l) (by simp) (List.pairwise_cons.mp hp).2
    rcases List.mem_cons.mp hy with rfl | hy
    · have h3 := (List.pairwise_cons.mp hp).1 z List.mem_cons_self
      have h4 := h2 z List.mem_cons_self
      omega
    · exact h2 y hy
def natD : Option Nat → D
  | none => .non
  | some n => .int (n : Int)
def natS (l : List Nat) : List D := l.map fun n : Nat => D.int (n : Int)
theorem natS_int (l : List Nat) : natS l = (l.map fun n : Nat => (n : Int)).map D.int := by
  unfold natS
  rw [List.map_map]
  rfl
theorem dfl_minN {l : List Nat} (h : l.Pairwise (· < ·)) : bDfl min [.lst (natS l)] [.non] = some (.val (natD l.head?)) := by
  show dflK .non min (ints? (natS l)) = _
  rw [natS_int, ints_map]
  cases l with
  | nil => rfl
  | cons x xs =>
    show some (S.val (D.int ((xs.map fun n : Nat => (n : Int)).foldl min (x : Int)))) = _
    rw [foldl_min_first fun y hy => by
      obtain ⟨z, hz, rfl⟩ := List.mem_map.mp hy
      have := (List.pairwise_cons.mp h).1 z hz
      omega]
    rfl
theorem dfl_maxN {l : List Nat} (h : l.Pairwise (· < ·)) : bDfl max [.lst (natS l)] [.non] = some (.val (natD l.getLast?)) := by
  show dflK .non max (ints? (natS l)) = _
  rw [natS_int, ints_map]
  cases l with
  | nil => rfl
  | cons x xs =>
    show some (S.val (D.int ((xs.map fun n : Nat => (n : Int)).foldl max (x : Int)))) = _
    have hl := sorted_last (l := x :: xs) (by simp) h
    rw [foldl_max_is (m := (((x :: xs).getLast (by simp) : Nat) : Int)) (by
      rw [← List.map_cons (f := fun n : Nat => (n : Int))]
      exact List.mem_map.mpr ⟨_, List.getLast_mem (by simp), rfl⟩) fun y hy => by
        rw [← List.map_cons (f := fun n : Nat => (n : Int))] at hy
        obtain ⟨z, hz, rfl⟩ := List.mem_map.mp hy
        have := hl z hz
        omega, List.getLast?_eq_some_getLast (by simp)]
    rfl
theorem max_list {n : Int} {ns : List Int} : bMaxL [.lst ((n :: ns).map D.int)] = some (.val (.int (ns.foldl max n))) := by
  show maxK (ints? _) = _
  rw [ints_map]
  rfl
theorem min_list {n : Int} {ns : List Int} : bMinL [.lst ((n :: ns).map D.int)] = some (.val (.int (ns.foldl min n))) := by
  show minK (ints? _) = _
  rw [ints_map]
  rfl
/-! ### a comprehension that looks at the store as it stands -/
theorem cloop_filterS {α : Type} {t : MG} {c : MT} {el : ME} {ρ : En} {μ : Sto} (emb : α → D) (p : α → Bool) (f : α → D) : ∀ (l : List α) (acc : List D), acc.length + l.length ≤ 1000 → (∀ x ∈ l, ∀ acc : List D, ∃ ρ', t (.val (emb x)) ρ (μ ++ [.lst acc]) = some (ρ', μ ++ [.lst acc]) ∧ c ρ' (μ ++ [.lst acc]) = some (.ok (p x), μ ++ [.lst acc]) ∧ (p x = true → el ρ' (μ ++ [.lst acc]) = some (.ok (.val (f x)), μ ++ [.lst acc]))) →
    cloop t c el ρ μ.length (l.map emb) (μ ++ [.lst acc]) = some (μ ++ [.lst (acc ++ (l.filter p).map f)])
  | [], acc, _, _ => by rw [List.filter_nil, List.map_nil, List.map_nil, List.append_nil]; rfl
  | d :: ds, acc, hl, h => by
    obtain ⟨ρ', h1, h2, h3⟩ := h d List.mem_cons_self acc
    rw [List.length_cons] at hl
    rw [List.map_cons]
    unfold cloop
    rw [h1]
    dsimp only
    rw [h2]
    cases e : p d with
    | false =>
      dsimp only
      rw [cloop_filterS emb p f ds acc (by omega) (fun x hx => h x (List.mem_cons_of_mem _ hx)), List.filter_cons_of_neg (by rw [e]; exact Bool.false_ne_true)]
    | true =>
      dsimp only
      rw [h3 e]
      dsimp only
      rw [cput_end (by omega)]
      dsimp only
      rw [cloop_filterS emb p f ds (acc ++ [f d]) (by rw [List.length_append, List.length_singleton]; omega) (fun x hx => h x (List.mem_cons_of_mem _ hx)), List.append_assoc, List.filter_cons_of_pos e]
      rfl
theorem comp_filterS {α : Type} {i : MI} {t : MG} {c : MT} {el : ME} {ow : List Nat} {ρ : En} {μ μ1 : Sto} {l : List α} (emb : α → D) (p : α → Bool) (f : α → D) (hi : i ρ μ = some (.ok (l.map emb), μ1)) (hl : l.length ≤ 1000)
    (h : ∀ x ∈ l, ∀ acc : List D, ∃ ρ', t (.val (emb x)) (wipeE ρ ow) (μ1 ++ [.lst acc]) = some (ρ', μ1 ++ [.lst acc]) ∧ c ρ' (μ1 ++ [.lst acc]) = some (.ok (p x), μ1 ++ [.lst acc]) ∧ (p x = true → el ρ' (μ1 ++ [.lst acc]) = some (.ok (.val (f x)), μ1 ++ [.lst acc]))) :
    mComp i t c el ow ρ μ = some (.ok (.fr ((l.filter p).map f)), μ1) := by
  rw [mComp_ap, hi, andThen_ok, cloop_filterS emb p f l [] (by rw [List.length_nil]; omega) h, List.nil_append]
  unfold finC
  dsimp only
  rw [get_end]
  dsimp only
  rw [take_end]
end Sz

set_option Elab.async false
set_option linter.all false
set_option maxRecDepth 100000
set_option maxHeartbeats 4000000
/-! Sz W: texts with fields; repr of own objects, in tuples too. -/
namespace Sz
open PySem PySem.Spec PyProof.Rows L2

/-! ### f'..' -/
def joinM : List ME → Str → En → Sto → Option R
  | [], acc, _, μ => some (.ok (.val (.str acc)), μ)
  | m :: ms, acc, ρ, μ => andThen (m ρ μ) fun s μ1 => match s with
    | .val (.str y) => if (acc ++ y).length ≤ sizeLine then joinM ms (acc ++ y) ρ μ1 else none
    | _ => none
def mJoin (ms : List ME) : ME := fun ρ μ => joinM ms Str.empty ρ μ
def fmtK (μ : Sto) : S → Option R
  | .val (.str y) => if y.length ≤ sizeLine then some (.ok (.val (.str y)), μ) else none
  | .val (.int i) => if i.natAbs.log2 < 1920 then some (.ok (.val (.str (toString i))), μ) else none
  | _ => none
def mFmt (m : ME) : ME := fun ρ μ => andThen (m ρ μ) fun s μ1 => fmtK μ1 s
section
variable {g : G} {X : Cx} {W : WX}
theorem postE_ext {F F1 : Hp} {as as1 : List Addr} {σ : L2.St} {Q : VK} {r : Except Ex S} {μ' : Sto} (x : Ext F as F1 as1) (h : PostE g W F as σ Q r μ') : PostE g W F1 as1 σ Q r μ' := by
  cases r with
  | error e => exact PErr.ext x h
  | ok s => exact fun F' as' w H' e sr ra => h F' as' w H' (x.trans e) sr ra
theorem se_fmt {e : Expr} {m : ME} {pos : Pos} (h : SE g X W e m) : SE g X W (.FormattedValue e (-1) none pos) (mFmt m) := by
  refine ⟨fun F as ρ μ σ H Q r μ' h1 sr er post => wE (pe_fmt pe_wp) ?_⟩
  refine h.then_ (show andThen _ _ = some (r, μ') from h1) sr er (fun x e => by subst e; exact post) fun s μ1 F1 as1 v H1 h2 x1 sr1 er1 ra1 => ?_
  unfold fmtK at h2
  split at h2
  · rename_i y
    split at h2
    · rename_i hz
      cases h2
      cases vr_str (view_ra sr1 ra1 (d := .str y) rfl)
      exact .inl ⟨y, rfl, hz, post F1 as1 _ H1 x1 sr1 ra_str⟩
    · cases h2
  · rename_i i
    split at h2
    · rename_i hz
      cases h2
      cases vr_int (view_ra sr1 ra1 (d := .int i) rfl)
      exact .inr ⟨i, rfl, hz, post F1 as1 _ H1 x1 sr1 ra_str⟩
    · cases h2
  · cases h2
inductive SJ (g : G) (X : Cx) (W : WX) : List Expr → List ME → Prop
  | nil : SJ g X W [] []
  | cons {e : Expr} {m : ME} {es : List Expr} {ms : List ME} : SE g X W e m → SJ g X W es ms → SJ g X W (e :: es) (m :: ms)
theorem sj_pj {es : List Expr} : PJ X es (es.map (wpE X)) := by
  induction es with
  | nil => exact .nil
  | cons e es ih => exact .cons pe_wp ih
theorem sj_run {es : List Expr} {ms : List ME} (h : SJ g X W es ms) : ∀ (acc : Str) (F : Hp) (as : List Addr) (ρ : En) (μ : Sto) (σ : L2.St) (H : Hp) (Q : VK) (r : Except Ex S) (μ' : Sto),
    joinM ms acc ρ μ = some (r, μ') → SR g F as μ H → ER g F as ρ σ → PostE g W F as σ Q r μ' → tJs (es.map (wpE X)) acc σ H fun out H1 => Q (.str out) H1 := by
  induction h with
  | nil =>
    intro acc F as ρ μ σ H Q r μ' e sr er post
    cases e
    exact post F as _ H .refl sr ra_str
  | cons he hes ih =>
    intro acc F as ρ μ σ H Q r μ' e sr er post
    refine he.then_ (show andThen _ _ = some (r, μ') from e) sr er (fun x e => by subst e; exact post) fun s μ1 F1 as1 v H1 h2 x1 sr1 er1 ra1 => ?_
    split at h2
    · rename_i y
      split at h2
      · rename_i hz
        cases vr_str (view_ra sr1 ra1 (d := .str y) rfl)
        exact ⟨y, rfl, hz, ih _ F1 as1 ρ μ1 σ H1 Q r μ' h2 sr1 er1 (postE_ext x1 post)⟩
      · cases h2
    · cases h2
theorem se_join {v1 v2 : Expr} {rest : List Expr} {ms : List ME} {pos : Pos} (h : SJ g X W (v1 :: v2 :: rest) ms) : SE g X W (.JoinedStr (v1 :: v2 :: rest) pos) (mJoin ms) :=
  ⟨fun F as ρ μ σ H Q r μ' h1 sr er post => wE (pe_joined sj_pj) (sj_run h _ F as ρ μ σ H Q r μ' h1 sr er post)⟩
theorem se_join1 {e : Expr} {m : ME} {pos : Pos} (h : SE g X W e m) : SE g X W (.JoinedStr [e] pos) m :=
  ⟨fun F as ρ μ σ H Q r μ' h1 sr er post => wE (pe_joined1 pe_wp) (h.run F as ρ μ σ H Q r μ' h1 sr er post)⟩
end

/-! ### a tuple's repr, its things' by any road -/
section
variable {prog : Program} {w : World} {A : Around} {E : Value → Shared → Prop}
inductive ElJ (prog : Program) (w : World) (A : Around) (E : Value → Shared → Prop) (J : Shared → Prop) : List Value → List Str → Prop
  | nil : ElJ prog w A E J [] []
  | cons {x : Value} {t : Str} {l : List Value} {ts : List Str} : (∀ base, base + t.length ≤ sizeLine → ∀ s, J s → wpAny (model prog w) A (pyReprUnder base x) (fun u s' => u = t ∧ J s') E s) → ElJ prog w A E J l ts → ElJ prog w A E J (x :: l) (t :: ts)
theorem ElJ.length {J : Shared → Prop} {l : List Value} {ts : List Str} (h : ElJ prog w A E J l ts) : ts.length = l.length := by
  induction h with
  | nil => rfl
  | cons _ _ ih => simp [ih]
theorem tupFoldJ {J : Shared → Prop} {l : List Value} {ts : List Str} (h : ElJ prog w A E J l ts) : ∀ (acc : Array Str) (n : Nat) (s : Shared) (Q : (Array Str × Nat) → Shared → Prop), n + piled ts ≤ sizeLine → J s → (∀ s', J s' → Q ⟨acc ++ ts.toArray, n + piled ts⟩ s') →
    wpAny (model prog w) A (forIn l (⟨acc, n⟩ : (Array Str × Nat)) tupBody) Q E s := by
  induction h with
  | nil =>
    intro acc n s Q _ hj k
    simp only [List.forIn_nil]
    exact wpAny_pure (by simpa [piled] using k s hj)
  | @cons x t l ts hx hl ih =>
    intro acc n s Q hn hj k
    rw [piled_cons] at hn
    rw [List.forIn_cons]
    refine wpAny_bind (wpAny_bind (wpAny_mono (hx (n + 1) (by omega) s hj) (fun u s' hu => ?_) fun _ _ e => e))
    obtain ⟨rfl, hj'⟩ := hu
    refine wpAny_pure (ih (acc.push u) (n + (u.length + 2)) s' Q (by omega) hj' fun s'' hj2 => ?_)
    have h1 := k s'' hj2
    have e : n + piled (u :: ts) = n + (u.length + 2) + piled ts := by rw [piled_cons]; omega
    rw [e] at h1
    simpa using h1
theorem tup_reprJ {J : Shared → Prop} {a : Addr} {items : Array Value} {ts : List Str} {s : Shared} {Q : Value → Shared → Prop} (ht : IsTup s.heap a items) (hg : A.guards = some []) (hJ : J s)
    (hT : ElJ prog w (A.under (.builtin "tuple.__repr__" ⟨[.ref a], []⟩)) E J items.toList ts) (hsz : (tupleText ts).length ≤ sizeLine)
    (hQ : ∀ s' u, J s' → Q (.str (tupleText ts) u) { s' with toks := s'.toks + 1 }) : wpAny (model prog w) A (call (.builtin "tuple.__repr__") [.ref a]) Q E s := by
  obtain ⟨o, ho, hc, n, hd⟩ := ht
  have hlen : ts.length = items.size := by simpa using hT.length
  have hp := piled_le_tupleText ts
  refine wpAny_call (codeAny_call_builtin_own (Code.quiet_builtin _ (by decide +kernel)) F.entry_tuple_repr (F.slot_tuple_repr.check _ _ _ _ _ _ _ _ ⟨o, ho, hc⟩ (F.args_tuple_repr_1 _) ?_))
  rw [show Builtin.«tuple.__repr__» ⟨[.ref a], []⟩ = Builtin.tupleReprAt 0 ⟨[.ref a], []⟩ from rfl, tuple_repr_tree, tupleReprUnderWay_eq]
  refine wpOwn_bind (wpOwn_stackTailAny hg (tupGuardF_off _) (tupGuardF_pos _) ?_)
  rw [show (([] : List Code).any fun c => tupGuardF (.ref a) (c, default)) = false from rfl]
  refine wpOwn_of_wpAny ?_
  show wpAny _ _ (tupleReprRest 0 (.ref a)) _ _ s
  unfold tupleReprRest Builtin.Tuple.tupleItemsOf
  refine wpAny_bind (wpAny_bind (wpAny_seqItems ho hd (wpAny_pure ?_)))
  rw [← Array.forIn_toList]
  refine wpAny_bind (tupFoldJ hT _ _ _ _ (by omega) hJ fun s' hj => ?_)
  refine wpAny_bind (wpAny_mkStr (wpAny_pure ?_) (by simpa [tupleText, hlen] using hsz))
  have h1 := hQ s' s'.toks hj
  simpa [tupleText, hlen, callEnd] using h1
end

/-! ### repr of own objects -/
/-- a thing's repr where it stands in a tuple: nothing, truths, whole numbers, texts, own objects -/
noncomputable def textO (sm : Nat → Option FnI) : D → Option Str
  | .non => some "None"
  | .bl b => some (if b then "True" else "False")
  | .int n => if n.natAbs.log2 < 1920 then some (toString n) else none
  | .str x => if (reprText x).length ≤ sizeLine then some (reprText x) else none
  | .obj c fs => (sm c).bind fun fi => match ownSem fi (.obj c fs) with
    | some (.str t) => some t
    | _ => none
  | _ => none
noncomputable def textsO (sm : Nat → Option FnI) : List D → Option (List Str)
  | [] => some []
  | d :: ds => match textO sm d, textsO sm ds with
    | some t, some ts => some (t :: ts)
    | _, _ => none
def strK : Option D → Option S
  | some (.str t) => some (.val (.str t))
  | _ => none
def tupK : Option (List Str) → Option S
  | some ts => if (tupleText ts).length ≤ sizeLine then some (.val (.str (tupleText ts))) else none
  | none => none
/-- repr(x): own objects by sm, in tuples by sn; data -/
noncomputable def bReprO (sm sn : Nat → Option FnI) : List D → Option S
  | [.obj c fs] => (match sm c with
    | some fi => strK (ownSem fi (.obj c fs))
    | none => none)
  | [.tup ds] => (match toPy (.tup ds) with
    | some p => shK (some p)
    | none => tupK (textsO sn ds))
  | xs => bRepr xs
theorem Room.tupr {k : Nat} {A : Around} {a : Addr} (r : Room (k + 1) A) : Room k (A.under (.builtin "tuple.__repr__" ⟨[.ref a], []⟩)) := by
  have hd : (A.under (.builtin "tuple.__repr__" ⟨[.ref a], []⟩)).depth ≤ A.depth + 1 := by
    first
      | exact Nat.le_refl _
      | exact Nat.le_succ _
      | (simp [Around.under, Code.weight, Code.isCreation, Code.isGuard, Code.isCaller, Code.frames, Code.isFrame, guardIds])
  refine ⟨r.hd, ?_, ?_⟩
  · have := r.dp
    omega
  · have := r.un
    rw [units_under_tuple_repr]
    omega
theorem env0_tupr {P : Program} {w : World} {K : PySem.W.Frag} {mg : Str → Option Value} {base : Heap} {A : Around} {outer : List Env} {s : Shared} {H : Hp} {a : Addr} (e : Env0 P w K mg base A outer s H) :
    Env0 P w K mg base (A.under (.builtin "tuple.__repr__" ⟨[.ref a], []⟩)) outer s H := ⟨by first | exact e.frames | (simpa [Around.under, Code.envs, Code.isFrame, pushEnvs] using e.frames), e.mod, e.bs, e.bsz, e.funs, e.frf, e.hok, e.bare⟩
section
variable {g : G} {P : Program} {w : World} {mg : Str → Option Value} {base : Heap} {k : Nat} {N : List Str} {sc : Scope} {own cm gb gc : Bool} {X : Cx} {W : WX}
/-- the state between two things of a tuple that is shown -/
def JR (g : G) (X : Cx) (pins : List (Addr × Obj)) (σ : L2.St) (F : Hp) (as : List Addr) (μ : Sto) (s : Shared) : Prop := ∃ F' as' H', Ext F as F' as' ∧ SR g F' as' μ H' ∧ Inv X pins σ H' s
theorem pyRepr_own {prog : Program} {w : World} {A : Around} {E : Value → Shared → Prop} {s : Shared} {K : PySem.W.Frag} {x C f : Addr} {ox : Obj} {od : Option Obj} {base : Nat} {Q : Str → Shared → Prop} (hb : base ≤ sizeLine) (hu : A.units < cLine) (X : K.In s.heap) (I : PySem.W.InstAt s.heap x ox C od) (hs : PySem.W.findIn K (.ref C) "__repr__" = some (some (.ref f))) (hf : PySem.W.isFn K (.ref f) = true)
    (h : wpAny (model prog w) A (call (.ref f) [.ref x]) (fun v s' => ∃ y t, v = .str y t ∧ Q y s') E s) : wpAny (model prog w) A (pyReprUnder base (.ref x)) Q E s := by
  refine wpAny_pyReprUnder_ref hb ?_
  unfold pyReprObjUnder pyReprObjBy
  refine wpAny_bind (wpAny_cRoomFor hu ?_)
  refine wpAny_bind (wpAny_bind (I.type.here ((PySem.W.looks_findIn X hs).here ?_)))
  show wpAny _ _ (if (some (Value.ref f)).isNone = true then _ else _) _ _ _
  rw [if_neg (by simp)]
  refine wpAny_bind (m := callSpecialIfBoundBy? _ (.ref x) (Str.ofString "__repr__")) ?_
  have fin : ∀ (v : Value) (s' : Shared), (∃ y t, v = .str y t ∧ Q y s') → wpAny (model prog w) A (match (some v : Option Value) with
      | some r => (do if ← isInstance r (.type "str") then pure r else raiseError "TypeError" s!"__repr__ returned non-string (type {← typeNameOf r})")
      | none => unsupported "repr:special-get-raises") (fun v s' => ∃ x u, v = .str x u ∧ Q x s') E s' := by
    rintro v s' ⟨y, t, rfl, q⟩
    exact wpAny_bind (wpAny_isInstance (T := "str") (b := true) rfl isSubtype_str_str (wpAny_pure ⟨y, t, rfl, q⟩))
  simp only [callSpecialIfBoundBy?, bindSpecialIfBound?]
  refine wpAny_holding (wpAny_bind (wpAny_bind (wpAny_bind (I.type.here ((PySem.W.looks_findIn X hs).here ?_)))))
  have go : wpAny (model prog w) A (call (.ref f) ([.ref x] ++ []) >>= fun v => pure (some v)) (fun r s' => wpAny (model prog w) A (match r with
      | some r => (do if ← isInstance r (.type "str") then pure r else raiseError "TypeError" s!"__repr__ returned non-string (type {← typeNameOf r})")
      | none => unsupported "repr:special-get-raises") (fun v s' => ∃ x u, v = .str x u ∧ Q x s') E s') E s :=
    wpAny_bind (wpAny_mono h (fun v s' hv => wpAny_pure (fin v s' hv)) fun _ _ z => z)
  refine wpAny_bind (wpAny_askSetting (wpAny_ite ?_))
  split
  · exact wpAny_bind ((PySem.W.bind_fn X _ (beq_iff_eq.mp hf)).here (wpAny_pure (by exact go)))
  · exact wpAny_tryCatch (wpAny_bind ((PySem.W.bind_fn X _ (beq_iff_eq.mp hf)).here (wpAny_pure (by exact go))))
theorem JR.tok {pins : List (Addr × Obj)} {σ : L2.St} {F : Hp} {as : List Addr} {μ : Sto} {s : Shared} (h : JR g X pins σ F as μ s) (t : Tok) : JR g X pins σ F as μ { s with toks := t } := by
  obtain ⟨F', as', H', x, sr, I⟩ := h
  exact ⟨F', as', H', x, sr, I.tok _⟩
theorem elem_repr {sn : Nat → Option FnI} {j : Nat} (c : Ct g P w mg base k N sc own true gb X W) (E : SpC false g P w mg base "__repr__" sn j) (hj : Nat.ble (j + 2) k = true) {pt : Addr} {d : D} {v : V} {x : Value} {t : Str} {pins : List (Addr × Obj)} {σ : L2.St} {F : Hp} {as : List Addr} {μ : Sto}
    (h : textO sn d = some t) (rd : Rep g F d v) (rv : RelV v x) (b : Nat) (hb : b + t.length ≤ sizeLine) (s : Shared) (hJ : JR g X pins σ F as μ s) :
    wpAny (model X.prog X.w) ((X.A.in1).under (.builtin "tuple.__repr__" ⟨[.ref pt], []⟩)) (pyReprUnder b x) (fun u s' => u = t ∧ JR g X pins σ F as μ s') X.xe s := by
  cases d with
  | non =>
    cases h
    unfold Rep at rd
    subst rd
    cases (show x = Value.none from rv)
    exact ReprIs.none b hb _ _ _ _ fun tk => ⟨rfl, hJ.tok tk⟩
  | bl y =>
    cases h
    unfold Rep at rd
    subst rd
    cases (show x = Value.bool y from rv)
    exact ReprIs.bool y b hb _ _ _ _ fun tk => ⟨rfl, hJ.tok tk⟩
  | int n =>
    have h : (if n.natAbs.log2 < 1920 then some (Str.ofString (toString n)) else none) = some t := h
    split at h
    · rename_i hn
      cases h
      unfold Rep at rd
      subst rd
      obtain ⟨tt, rfl⟩ := (show ∃ t, x = Value.int n t from rv)
      exact ReprIs.int tt hn b hb _ _ _ _ fun tk => ⟨rfl, hJ.tok tk⟩
    · cases h
  | str y =>
    have h : (if (reprText y).length ≤ sizeLine then some (reprText y) else none) = some t := h
    split at h
    · rename_i hn
      cases h
      unfold Rep at rd
      subst rd
      obtain ⟨tt, rfl⟩ := (show ∃ t, x = Value.str y t from rv)
      exact ReprIs.str y tt hn b hb _ _ _ _ fun tk => ⟨rfl, hJ.tok tk⟩
    · cases h
  | obj ci fs =>
    have h : ((sn ci).bind fun fi => match ownSem fi (.obj ci fs) with
      | some (.str t) => some t
      | _ => none) = some t := h
    obtain ⟨fi, hfi, h2⟩ := Option.bind_eq_some_iff.mp h
    split at h2
    · rename_i t' ho
      cases h2
      have hs := ownSem_some ho
      obtain ⟨f, FC, hfind, hfn, hps⟩ := E.ok ci fi hfi
      obtain ⟨F', as', H', x', sr', I'⟩ := hJ
      have rd' := rd.mono x'.1
      obtain ⟨a, dx, us, rfl, ha, _, _⟩ := vr_obj sr' (.inr rd')
      cases (show x = Value.ref a from rv)
      obtain ⟨mA, J, _⟩ := ins_get I'.hok ha
      obtain ⟨od, J, _⟩ := J.look
      have hr := (c.room rfl).mono (Nat.le_of_ble_eq_true hj)
      have hr2 := Room.tupr (a := pt) (k := j) (Room.in1 (k := j + 1) hr)
      refine pyRepr_own (by omega) (by have := hr2.un; omega) I'.kIn J (c.hK ▸ hfind) (c.hK ▸ hfn) ?_
      refine wpAny_mono (own_run c FC rfl hps hr2 (fun e => nomatch e) hs sr' rd' I' (env0_tupr I'.env0.in1)) (fun v s' told => ?_) fun _ _ z => z
      obtain ⟨F2, as2, w', H2, x2, sr2, rw', rel, I2⟩ := told
      unfold Rep at rw'
      subst rw'
      obtain ⟨tt, rfl⟩ := (show ∃ tt, v = Value.str t tt from rel)
      exact ⟨t, tt, rfl, rfl, F2, as2, H2, x'.trans x2, sr2, I2⟩
    · cases h2
  | _ => cases h
theorem elj {sn : Nat → Option FnI} {j : Nat} (c : Ct g P w mg base k N sc own true gb X W) (E : SpC false g P w mg base "__repr__" sn j) (hj : Nat.ble (j + 2) k = true) {pt : Addr} {pins : List (Addr × Obj)} {σ : L2.St} {F : Hp} {as : List Addr} {μ : Sto} :
    ∀ {ds : List D} {vs : List V} {its : List Value} {ts : List Str}, textsO sn ds = some ts → Reps g F ds vs → Vals vs its → ElJ X.prog X.w ((X.A.in1).under (.builtin "tuple.__repr__" ⟨[.ref pt], []⟩)) X.xe (JR g X pins σ F as μ) its ts
  | [], vs, its, ts, h, r, rv => by
    cases h
    cases Reps.nil_iff.mp r
    cases rv
    exact .nil
  | d :: ds, vs, its, ts, h, r, rv => by
    unfold textsO at h
    split at h
    · rename_i t ts' h1 h2
      cases h
      obtain ⟨v, r', rfl, r1, r2⟩ := Reps.cons_iff.mp r
      cases rv with
      | cons q1 q2 => exact .cons (fun b hb s hJ => elem_repr c E hj h1 r1 q1 b hb s hJ) (elj c E hj h2 r2 q2)
    · cases h
theorem Ct.reprO {sm sn : Nat → Option FnI} {i j : Nat} (c : Ct g P w mg base k N sc own true gb X W) (E : SpC gc g P w mg base "__repr__" sm i) (En : SpC false g P w mg base "__repr__" sn j) (hgd : leB gc gb = true) (gd : X.A.guards = some []) (hi : Nat.ble (i + 1) k = true) (hj : Nat.ble (j + 2) k = true) : CallOk g X (.builtin "repr") (bReprO sm sn) := by
  intro xs s F as μ H vs Q e sr hx kk
  unfold bReprO at e
  split at e
  · rename_i ci fs
    split at e
    · rename_i fi hfi
      obtain ⟨v, rfl, hv⟩ := vrs1 hx
      unfold strK at e
      split at e
      · rename_i t ho
        cases e
        have hs := ownSem_some ho
        obtain ⟨f, FC, hfind, hfn, hps⟩ := E.ok ci fi hfi
        obtain ⟨a, dx, us, rfl, ha, _, _⟩ := vr_obj sr hv
        have rx : Rep g F (.obj ci fs) (.ref a) := by
          rcases hv with ⟨_, _, _, q, _⟩ | hv
          · cases q
          · exact hv
        intro pins st σ vs' I rv
        obtain ⟨u, rfl, ru⟩ := rv.one
        cases (show u = Value.ref a from ru)
        obtain ⟨mA, J, _⟩ := ins_get I.hok ha
        obtain ⟨od, J, _⟩ := J.look
        obtain ⟨m, hFr⟩ := I.fr
        have hr := (c.room rfl).mono (Nat.le_of_ble_eq_true hi)
        refine PySem.W.repr_K (by have := hr.in1.un; omega) hFr I.ok.mod.kin J (c.hK ▸ hfind) (c.hK ▸ hfn) ?_
        refine wpAny_mono (own_run c FC rfl hps hr.in1 (fun e => c.gd (leB_ok hgd e)) hs sr rx I I.env0.in1) (fun v s' told => ?_) fun _ _ z => z
        obtain ⟨F', as', w', H', x', sr', rw', rel, I'⟩ := told
        unfold Rep at rw'
        subst rw'
        obtain ⟨tt, rfl⟩ := (show ∃ tt, v = Value.str t tt from rel)
        exact ⟨.str t, H', I', ⟨_, rfl⟩, kk F' as' _ H' x' sr' ra_str⟩
      · cases e
    · cases e
  · rename_i ds
    split at e
    · rename_i p hp
      exact co_repr c.K gd c.hu [.tup ds] s F as μ H vs Q (by show shK (toPy (.tup ds)) = some s; rw [hp]; exact e) sr hx kk
    · obtain ⟨v, rfl, hv⟩ := vrs1 hx
      unfold tupK at e
      split at e
      · rename_i ts hts
        split at e
        · rename_i hz
          cases e
          obtain ⟨p, vs, rfl, hp, rv⟩ := vr_tup sr hv
          intro pins st σ us I ru
          obtain ⟨u, rfl, r1⟩ := ru.one
          cases (show u = Value.ref p from r1)
          obtain ⟨its, r, ht, _⟩ := I.tuple (c.hK ▸ hp)
          refine call_repr_slot (by have := c.hu; omega) ht.typeIs PySem.F.slot_tuple_repr ?_
          refine tup_reprJ (A := X.A.in1) (J := JR g X pins σ F as μ) ht gd ⟨F, as, H, .refl, sr, I⟩ (elj c En hj hts rv (by simpa using r)) hz fun s' u hJ => ?_
          obtain ⟨F', as', H', x', sr', I'⟩ := hJ
          exact ⟨_, _, rfl, .str _, H', I'.tok _, ⟨_, rfl⟩, kk F' as' _ H' x' sr' ra_str⟩
        · cases e
      · cases e
  · exact co_repr c.K gd c.hu xs s F as μ H vs Q e sr hx kk
end
/-! ### reckoning -/
theorem mJoin_ap {ms : List ME} {ρ : En} {μ : Sto} : mJoin ms ρ μ = joinM ms Str.empty ρ μ := rfl
theorem joinM_nil {acc : Str} {ρ : En} {μ : Sto} : joinM [] acc ρ μ = some (.ok (.val (.str acc)), μ) := rfl
theorem joinM_str {m : ME} {ms : List ME} {acc y : Str} {ρ : En} {μ μ1 : Sto} (h : m ρ μ = some (.ok (.val (.str y)), μ1)) (hz : (acc ++ y).length ≤ sizeLine) : joinM (m :: ms) acc ρ μ = joinM ms (acc ++ y) ρ μ1 := by
  show (andThen (m ρ μ) fun s μ1 => _) = _
  rw [h, andThen_ok]
  exact if_pos hz
theorem fmt_int {m : ME} {i : Int} {ρ : En} {μ μ1 : Sto} (h : m ρ μ = some (.ok (.val (.int i)), μ1)) (hz : i.natAbs.log2 < 1920) : mFmt m ρ μ = some (.ok (.val (.str (toString i))), μ1) := by
  show (andThen (m ρ μ) fun s μ1 => _) = _
  rw [h, andThen_ok]
  exact if_pos hz
theorem repr_obj {sm sn : Nat → Option FnI} {c : Nat} {fs : List D} {fi : FnI} {t : Str} (h1 : sm c = some fi) (h2 : ∀ μ : Sto, fi.sem [.val (.obj c fs)] μ = some (.ok (.val (.str t)), μ)) : bReprO sm sn [.obj c fs] = some (.val (.str t)) := by
  show (match sm c with
    | some fi => strK (ownSem fi (.obj c fs))
    | none => none) = _
  rw [h1]
  show strK (ownSem fi (.obj c fs)) = _
  rw [ownSem_eq h2]
  rfl
theorem text_obj {sn : Nat → Option FnI} {c : Nat} {fs : List D} {fi : FnI} {t : Str} (h1 : sn c = some fi) (h2 : ∀ μ : Sto, fi.sem [.val (.obj c fs)] μ = some (.ok (.val (.str t)), μ)) : textO sn (.obj c fs) = some t := by
  show ((sn c).bind fun fi => match ownSem fi (.obj c fs) with
    | some (.str t) => some t
    | _ => none) = _
  rw [h1]
  show (match ownSem fi (.obj c fs) with
    | some (.str t) => some t
    | _ => none) = _
  rw [ownSem_eq h2]
theorem repr_tup {sm sn : Nat → Option FnI} {ds : List D} {ts : List Str} (h0 : toPy (.tup ds) = none) (h1 : textsO sn ds = some ts) (h2 : (tupleText ts).length ≤ sizeLine) : bReprO sm sn [.tup ds] = some (.val (.str (tupleText ts))) := by
  show (match toPy (.tup ds) with
    | some p => shK (some p)
    | none => tupK (textsO sn ds)) = _
  rw [h0, h1]
  exact if_pos h2
theorem repr_plain {sm sn : Nat → Option FnI} {ds : List D} {p : PyData} (h0 : toPy (.tup ds) = some p) : bReprO sm sn [.tup ds] = bRepr [.tup ds] := by
  show (match toPy (.tup ds) with
    | some p => shK (some p)
    | none => tupK (textsO sn ds)) = shK (toPy (.tup ds))
  rw [h0]
end Sz

set_option Elab.async false
set_option linter.all false
set_option maxRecDepth 100000
set_option maxHeartbeats 4000000
/-! Sz Z2: list(range(..)). -/
namespace Sz
open PySem PySem.Spec PyProof.Rows L2
def inS (i : Int) : Bool := decide (0 ≤ i) && decide (i ≤ 16777216)
def lrK (μ : Sto) (i j : Int) : Option R := if inS i && inS j then some (.ok (.fr (rangeD i (j - i).toNat)), μ) else none
def mListR1 (a : ME) : ME := fun ρ μ => andThen (a ρ μ) fun s μ1 => match vw μ1 s with
  | some (.int j) => lrK μ1 0 j
  | _ => none
def mListR2 (a b : ME) : ME := fun ρ μ => andThen (mArgs [a, b] ρ μ) fun ss μ1 => match vws μ1 ss with
  | some [.int i, .int j] => lrK μ1 i j
  | _ => none
theorem rgOk_of {i j : Int} (h : (inS i && inS j) = true) : RgOk i j := by
  unfold inS at h
  simp only [Bool.and_eq_true, decide_eq_true_eq] at h
  obtain ⟨⟨a, b⟩, c, d⟩ := h
  exact RgOk.of_le a d b c
theorem reps_rg {g : G} {F : Hp} {i j : Int} : Reps g F (rangeD i (j - i).toNat) (rgV i j) := by
  have h := ints_rep (g := g) (F := F) (ns := (List.range (j - i).toNat).map fun k : Nat => i + (k : Int))
  rw [List.map_map, List.map_map] at h
  exact h
section
variable {g : G} {X : Cx} {W : WX} {a b : Expr} {ma mb : ME} {p p2 pos pos2 : Pos}
theorem lr_post {F : Hp} {as : List Addr} {μ μ' : Sto} {σ : L2.St} {H : Hp} {Q : VK} {r : Except Ex S} {i j : Int} (e : lrK μ i j = some (r, μ')) (sr : SR g F as μ H) (post : PostE g W F as σ Q r μ') : RgOk i j ∧ ∀ q, H q = none → Q (.ref q) (upd H q (.lst (rgV i j))) := by
  unfold lrK at e
  split at e
  · rename_i h
    cases e
    refine ⟨rgOk_of h, fun q hq => ?_⟩
    obtain ⟨sr', f, n⟩ := sr.loose (o := .lst (rgV i j)) hq
    exact post F as _ _ .refl sr' (ra_lst upd_same f n reps_rg)
  · cases e
theorem se_listR1 (hc : X.calm = true) (hg : Gl X "list") (hm : X.mg "list" = none) (hg2 : Gl X "range") (hm2 : X.mg "range" = none) (hn : notStar a = true) (ha : SE g X W a ma) : SE g X W (.Call (.Name "list" p) [.Call (.Name "range" p2) [a] [] pos2] [] pos) (mListR1 ma) := by
  refine ⟨fun F as ρ μ σ H Q r μ' h sr er post => wE (pe_listRg hc hg hm (prg_1 hg2 hm2 pe_wp (starEach_cons hn))) ?_⟩
  refine ha.then_ (show andThen _ _ = some (r, μ') from h) sr er (fun x e => by subst e; exact post) fun s μ1 F1 as1 v H1 h1 x1 sr1 er1 ra1 => ?_
  split at h1
  · rename_i j hv
    cases vr_int (view_ra sr1 ra1 hv)
    exact ⟨j, rfl, lr_post h1 sr1 (postE_ext x1 post)⟩
  · cases h1
theorem se_listR2 (hc : X.calm = true) (hg : Gl X "list") (hm : X.mg "list" = none) (hg2 : Gl X "range") (hm2 : X.mg "range" = none) (hn : notStar a = true) (hn2 : notStar b = true) (ha : SE g X W a ma) (hb : SE g X W b mb) : SE g X W (.Call (.Name "list" p) [.Call (.Name "range" p2) [a, b] [] pos2] [] pos) (mListR2 ma mb) := by
  refine ⟨fun F as ρ μ σ H Q r μ' h sr er post => wE (pe_listRg hc hg hm (prg_2 hg2 hm2 pe_wp pe_wp (starEach_cons hn) (starEach_cons hn2) (by rw [starEach_cons hn2]; rfl))) ?_⟩
  have h : (andThen (ma ρ μ) fun s1 μ1 => andThen (andThen (mb ρ μ1) fun s2 μ2 => some (.ok [rt s2], μ2)) fun ss μ2 => match vws μ2 (rt s1 :: ss) with
    | some [.int i, .int j] => lrK μ2 i j
    | _ => none) = some (r, μ') := by
    rw [← h]
    show _ = andThen (mArgs [ma, mb] ρ μ) _
    rw [mArgs_cons]
    cases ma ρ μ with
    | none => rfl
    | some q =>
      obtain ⟨q, μ1⟩ := q
      cases q with
      | error x => rfl
      | ok s1 =>
        rw [andThen_ok, andThen_ok, mArgs_cons]
        cases mb ρ μ1 with
        | none => rfl
        | some q =>
          obtain ⟨q, μ2⟩ := q
          cases q with
          | error x => rfl
          | ok s2 => rfl
  refine ha.then_ h sr er (fun x e => by subst e; exact post) fun s1 μ1 F1 as1 v1 H1 h1 x1 sr1 er1 ra1 => ?_
  obtain ⟨F1', x1', sr1', rs1⟩ := root_ok sr1 ra1
  have h2 : (andThen (mb ρ μ1) fun s2 μ2 => match vws μ2 [rt s1, rt s2] with
    | some [.int i, .int j] => lrK μ2 i j
    | _ => none) = some (r, μ') := by
    rw [← h1]
    cases mb ρ μ1 with
    | none => rfl
    | some q =>
      obtain ⟨q, μ2⟩ := q
      cases q with
      | error x => rfl
      | ok s2 => rfl
  refine hb.then_ h2 sr1' (er1.mono x1') (fun x e => by subst e; exact PErr.ext (x1.trans x1') post) fun s2 μ2 F2 as2 v2 H2 h3 x2 sr2 er2 ra2 => ?_
  split at h3
  · rename_i i j hv
    have rs : RSs g F2 as2 [rt s1] [v1] := .cons (rs1.mono x2) .nil
    obtain ⟨F2', x2', sr2', rs2⟩ := root_ok sr2 ra2
    obtain ⟨v, u, e, q1, q2⟩ := vrs2 (views_rs sr2' (.cons ((rs1.mono x2).mono x2') (.cons rs2 .nil)) hv)
    cases e
    cases vr_int q1
    cases vr_int q2
    exact ⟨i, j, rfl, rfl, lr_post h3 sr2' (postE_ext (((x1.trans x1').trans x2).trans x2') post)⟩
  · cases h3
end
section
variable {g : G} {P : Program} {w : World} {mg : Str → Option Value} {base : Heap} {k : Nat} {N : List Str} {sc : Scope} {own cm gb : Bool} {X : Cx} {W : WX} {frees globs : List Str} {a b : Expr} {ma mb : ME} {p p2 pos pos2 : Pos}
theorem Ct.listR1 (c : Ct g P w mg base k N sc own true gb X W) (T : Tb g mg frees globs) (hg : glB sc "list" = true) (hf : frees.contains ("list" : Str) = true) (hg2 : glB sc "range" = true) (hf2 : frees.contains ("range" : Str) = true) (hn : notStar a = true) (ha : SE g X W a ma) : SE g X W (.Call (.Name "list" p) [.Call (.Name "range" p2) [a] [] pos2] [] pos) (mListR1 ma) :=
  se_listR1 (c.calm rfl) (c.gl hg).1 (by rw [c.hmg]; exact T.fr _ hf) (c.gl hg2).1 (by rw [c.hmg]; exact T.fr _ hf2) hn ha
theorem Ct.listR2 (c : Ct g P w mg base k N sc own true gb X W) (T : Tb g mg frees globs) (hg : glB sc "list" = true) (hf : frees.contains ("list" : Str) = true) (hg2 : glB sc "range" = true) (hf2 : frees.contains ("range" : Str) = true) (hn : notStar a = true) (hn2 : notStar b = true) (ha : SE g X W a ma) (hb : SE g X W b mb) : SE g X W (.Call (.Name "list" p) [.Call (.Name "range" p2) [a, b] [] pos2] [] pos) (mListR2 ma mb) :=
  se_listR2 (c.calm rfl) (c.gl hg).1 (by rw [c.hmg]; exact T.fr _ hf) (c.gl hg2).1 (by rw [c.hmg]; exact T.fr _ hf2) hn hn2 ha hb
end
theorem mListR1_of {a : ME} {ρ : En} {μ μ1 : Sto} {j : Int} (h : a ρ μ = some (.ok (.val (.int j)), μ1)) (hj : inS j = true) : mListR1 a ρ μ = some (.ok (.fr (rangeD 0 j.toNat)), μ1) := by
  show (andThen (a ρ μ) fun s μ1 => _) = _
  rw [h, andThen_ok]
  show lrK μ1 0 j = _
  unfold lrK
  rw [if_pos (by rw [hj]; rfl), Int.sub_zero]
theorem mListR2_of {a b : ME} {ρ : En} {μ μ1 μ2 : Sto} {i j : Int} (h : a ρ μ = some (.ok (.val (.int i)), μ1)) (h2 : b ρ μ1 = some (.ok (.val (.int j)), μ2)) (hi : inS i = true) (hj : inS j = true) : mListR2 a b ρ μ = some (.ok (.fr (rangeD i (j - i).toNat)), μ2) := by
  show (andThen (mArgs [a, b] ρ μ) fun s μ1 => _) = _
  rw [mArgs_cons, h, andThen_ok, mArgs_cons, h2, andThen_ok, mArgs_nil, andThen_ok, andThen_ok, andThen_ok]
  show lrK μ2 i j = _
  unfold lrK
  rw [if_pos (by rw [hi, hj]; rfl)]
end Sz

set_option Elab.async false
set_option linter.all false
set_option maxRecDepth 100000
set_option maxHeartbeats 4000000
/-! Sz Z3: str(x) of own objects; {x!r}. -/
namespace Sz
open PySem PySem.Spec PyProof.Rows L2
section
variable {prog : Program} {w : World} {A : Around} {E : Value → Shared → Prop} {s : Shared} {K : PySem.W.Frag} {x C f : Addr} {ox : Obj} {od : Option Obj}
open PySem.W PySem.Calls Builtin Builtin.Str in
theorem str_own {Q : Value → Shared → Prop} (hu : A.in1.in1.units < cLine) (X : K.In s.heap) (I : InstAt s.heap x ox C od) (hs : findIn K (.ref C) "__str__" = some (some (.ref f))) (hf : isFn K (.ref f) = true)
    (h : wpAny (model prog w) A.in1.in1 (call (.ref f) [.ref x]) (StrBack Q) E s) : wpAny (model prog w) A (call (.type "str") [.ref x]) Q E s := by
  refine callType_codes (T := "str") (Bi := Builtin.«object.__init__») (Q₁ := fun r s₁ => ∃ y u, r = .str y u ∧ Q r s₁) PySem.F.called_str (PySem.F.typeCall_str_1 _) PySem.F.entry_object_init ?_ ?_
  · refine codeAny_of_tree ?_
    show wpAny _ A.in1.in1 (do checkBuiltinCall "str.__new__" ⟨[.type "str", .ref x], []⟩; again (.builtin "str.__new__" ⟨[.type "str", .ref x], []⟩)) _ _ s
    refine wpAny_bind (wpAny_of_eq (PySem.F.newCall_str_1 _) (wpAny_pure ⟨plainId_quiet (by decide +kernel) _, codeAny_builtin PySem.F.entry_str_new ?_⟩))
    rw [Around.under_plainId (by decide +kernel) _]
    rw [str_new_tree]
    refine wpAny_bind (wpAny_pure ?_)
    refine wpAny_bind (wpAny_of_eq isSubtype_str_str ?_)
    have key : wpAny (model prog w) A.in1.in1 (PySem.Builtin.Str.strOf (.ref x)) (fun r s₁ => ∃ y u, r = .str y u ∧ Q r s₁) E s := by
      unfold PySem.Builtin.Str.strOf
      rw [show isExactStr (.ref x) = false from rfl]
      refine wpAny_bind (m := cRoomFor _ _) (wpAny_cRoomFor hu ?_)
      refine wpAny_bind (m := callSpecial? (.ref x) (Str.ofString "__str__")) (special_fn X I hs (beq_iff_eq.mp hf) (wpAny_mono h (fun r s' z => ?_) fun _ _ y => y))
      cases r <;> first | exact z.elim | exact wpAny_bind (wpAny_isInstance (T := "str") (b := true) rfl isSubtype_str_str (wpAny_pure ⟨_, _, rfl, z⟩)) | exact wpAny_pure ⟨_, _, rfl, z⟩
    exact wpAny_bind (wpAny_mono key (fun r s₁ hr => wpAny_pure hr) fun _ _ y => y)
  · rintro obj s₁ ⟨y, u, rfl, hq⟩
    exact ⟨typeIs_str _ _ _, PySem.F.args_object_init_2 _ _, object_init_meets PySem.F.called_str.init.lookup PySem.F.called_str.made (by decide) prog w A.in1 _ s₁ ⟨typeIs_str _ _ _, rfl, hq⟩⟩
theorem reprObj_own {Q : Value → Shared → Prop} (hu : A.units < cLine) (X : K.In s.heap) (I : PySem.W.InstAt s.heap x ox C od) (hs : PySem.W.findIn K (.ref C) "__repr__" = some (some (.ref f))) (hf : PySem.W.isFn K (.ref f) = true)
    (h : wpAny (model prog w) A (call (.ref f) [.ref x]) (PySem.W.StrBack Q) E s) : wpAny (model prog w) A (pyReprObj (.ref x)) Q E s := by
  unfold pyReprObj
  refine wpAny_bind (wpAny_cRoomFor hu ?_)
  refine wpAny_bind (wpAny_bind (I.type.here ((PySem.W.looks_findIn X hs).here ?_)))
  show wpAny _ _ (if (some (Value.ref f)).isNone = true then _ else _) _ _ _
  rw [if_neg (by simp)]
  refine wpAny_bind (m := callSpecialIfBound? (.ref x) (Str.ofString "__repr__") _) (PySem.W.ifBound_K X I hs hf (wpAny_mono h (fun r s' hr => ?_) fun _ _ y => y))
  cases r <;> first | exact hr.elim | skip
  refine wpAny_bind (wpAny_isInstance (T := "str") (b := true) (typeIs_str _ _ _) isSubtype_str_str ?_)
  first
    | exact wpAny_pure hr
    | (rw [if_pos rfl]; exact wpAny_pure hr)
    | (simp only [if_true]; exact wpAny_pure hr)
end
/-- str(x): own objects by sm -/
noncomputable def bStrO (sm : Nat → Option FnI) : List D → Option S
  | [.obj c fs] => (match sm c with
    | some fi => strK (ownSem fi (.obj c fs))
    | none => none)
  | xs => bStr xs
/-- {x!r} -/
noncomputable def fmtRK (sm : Nat → Option FnI) (μ : Sto) : Option D → Option R
  | some d => (match textO sm d with
    | some t => if t.length ≤ sizeLine then some (.ok (.val (.str t)), μ) else none
    | none => none)
  | none => none
noncomputable def mFmtR (sm : Nat → Option FnI) (m : ME) : ME := fun ρ μ => andThen (m ρ μ) fun s μ1 => fmtRK sm μ1 (vw μ1 s)
section
variable {g : G} {P : Program} {w : World} {mg : Str → Option Value} {base : Heap} {k : Nat} {N : List Str} {sc : Scope} {own cm gb gc : Bool} {X : Cx} {W : WX}
theorem Ct.strO {sm : Nat → Option FnI} {i : Nat} (c : Ct g P w mg base k N sc own true gb X W) (E : SpC gc g P w mg base "__str__" sm i) (hgd : leB gc gb = true) (hi : Nat.ble (i + 2) k = true) : CallOk g X (.type "str") (bStrO sm) := by
  intro xs s F as μ H vs Q e sr hx kk
  unfold bStrO at e
  split at e
  · rename_i ci fs
    split at e
    · rename_i fi hfi
      obtain ⟨v, rfl, hv⟩ := vrs1 hx
      unfold strK at e
      split at e
      · rename_i t ho
        cases e
        have hs := ownSem_some ho
        obtain ⟨f, FC, hfind, hfn, hps⟩ := E.ok ci fi hfi
        obtain ⟨a, dx, us, rfl, ha, _, _⟩ := vr_obj sr hv
        have rx : Rep g F (.obj ci fs) (.ref a) := by
          rcases hv with ⟨_, _, _, q, _⟩ | hv
          · cases q
          · exact hv
        intro pins st σ vs' I rv
        obtain ⟨u, rfl, ru⟩ := rv.one
        cases (show u = Value.ref a from ru)
        obtain ⟨mA, J, _⟩ := ins_get I.hok ha
        obtain ⟨od, J, _⟩ := J.look
        have hr := (c.room rfl).mono (Nat.le_of_ble_eq_true hi)
        have hr2 := Room.in1 (Room.in1 (k := i + 1) hr)
        refine str_own (by have := hr2.un; omega) I.kIn J (c.hK ▸ hfind) (c.hK ▸ hfn) ?_
        refine wpAny_mono (own_run c FC rfl hps hr2 (fun e => c.gd (leB_ok hgd e)) hs sr rx I I.env0.in1.in1) (fun v s' told => ?_) fun _ _ z => z
        obtain ⟨F', as', w', H', x', sr', rw', rel, I'⟩ := told
        unfold Rep at rw'
        subst rw'
        obtain ⟨tt, rfl⟩ := (show ∃ tt, v = Value.str t tt from rel)
        exact ⟨.str t, H', I', ⟨_, rfl⟩, kk F' as' _ H' x' sr' ra_str⟩
      · cases e
    · cases e
  · exact co_str xs s F as μ H vs Q e sr hx kk
theorem pe_fmtRc {e : Expr} {te : TE} {pos : Pos} (he : PE X e te) : PE X (.FormattedValue e 114 none pos) (fun σ H Q => te σ H fun x H1 => ∀ (pins : List (Addr × Obj)) (st : Shared) (u : Value), Inv X pins σ H1 st → RelV x u → wpAny (model X.prog X.w) X.A (pyReprObj u) (fun r s2 => wpAny (model X.prog X.w) X.A (formatField r Str.empty) (EP X pins σ Q) X.xe s2) X.xe st) := by
  refine ⟨fun pins s σ H Q I h => ?_⟩
  refine wpAny_FormattedValue_repr (thn (he.run pins s σ H _ I h) fun v s1 ⟨x, H1, I1, r1, q⟩ => q pins s1 v I1 r1)
theorem Ct.fmtR {sm : Nat → Option FnI} {i : Nat} {e : Expr} {m : ME} {pos : Pos} (c : Ct g P w mg base k N sc own true gb X W) (E : SpC gc g P w mg base "__repr__" sm i) (hgd : leB gc gb = true) (hi : Nat.ble i k = true) (he : SE g X W e m) : SE g X W (.FormattedValue e 114 none pos) (mFmtR sm m) := by
  refine ⟨fun F as ρ μ σ H Q r μ' h sr er post => wE (pe_fmtRc pe_wp) ?_⟩
  refine he.then_ (show andThen _ _ = some (r, μ') from h) sr er (fun x e => by subst e; exact post) fun s μ1 F1 as1 v H1 h1 x1 sr1 er1 ra1 => ?_
  unfold fmtRK at h1
  split at h1
  · rename_i d hd
    split at h1
    · rename_i t ht
      split at h1
      · rename_i hz
        cases h1
        have hv := view_ra sr1 ra1 hd
        intro pins st u I ru
        have fin : ∀ (tk : Tok) (s2 : Shared) (F2 : Hp) (as2 : List Addr) (H2 : Hp), Ext F1 as1 F2 as2 → SR g F2 as2 μ' H2 → Inv X pins σ H2 s2 → wpAny (model X.prog X.w) X.A (formatField (.str t tk) Str.empty) (EP X pins σ Q) X.xe s2 := fun tk s2 F2 as2 H2 x2 sr2 I2 =>
          wpAny_formatField_str ⟨.str t, H2, I2, ⟨tk, rfl⟩, post F2 as2 _ H2 (x1.trans x2) sr2 ra_str⟩ ⟨.str t, H2, I2.tok _, ⟨_, rfl⟩, post F2 as2 _ H2 (x1.trans x2) sr2 ra_str⟩ hz
        have leaf := fun tk (s2 : Shared) (I2 : Inv X pins σ H1 s2) => fin tk s2 F1 as1 H1 .refl sr1 I2
        cases d with
        | non =>
          cases ht
          cases vr_non hv
          cases (show u = Value.none from ru)
          exact pyReprObj_none (leaf _ _ (I.tok _))
        | bl y =>
          cases ht
          cases vr_bl hv
          cases (show u = Value.bool y from ru)
          exact pyReprObj_bool (leaf _ _ (I.tok _))
        | int n =>
          have ht : (if n.natAbs.log2 < 1920 then some (Str.ofString (toString n)) else none) = some t := ht
          split at ht
          · rename_i hn
            cases ht
            cases vr_int hv
            obtain ⟨tt, rfl⟩ := (show ∃ t, u = Value.int n t from ru)
            exact pyReprObj_int hn (leaf _ _ (I.tok _))
          · cases ht
        | str y =>
          have ht : (if (reprText y).length ≤ sizeLine then some (reprText y) else none) = some t := ht
          split at ht
          · rename_i hn
            cases ht
            cases vr_str hv
            obtain ⟨tt, rfl⟩ := (show ∃ t, u = Value.str y t from ru)
            exact pyReprObj_str (leaf _ _ (I.tok _)) hn
          · cases ht
        | obj ci fs =>
          have ht : ((sm ci).bind fun fi => match ownSem fi (.obj ci fs) with
            | some (.str t) => some t
            | _ => none) = some t := ht
          obtain ⟨fi, hfi, h2⟩ := Option.bind_eq_some_iff.mp ht
          split at h2
          · rename_i t' ho
            cases h2
            have hs := ownSem_some ho
            obtain ⟨f, FC, hfind, hfn, hps⟩ := E.ok ci fi hfi
            obtain ⟨a, dx, us, rfl, ha, _, _⟩ := vr_obj sr1 hv
            have rx : Rep g F1 (.obj ci fs) (.ref a) := by
              rcases hv with ⟨_, _, _, q, _⟩ | hv
              · cases q
              · exact hv
            cases (show u = Value.ref a from ru)
            obtain ⟨mA, J, _⟩ := ins_get I.hok ha
            obtain ⟨od, J, _⟩ := J.look
            have hr := (c.room rfl).mono (Nat.le_of_ble_eq_true hi)
            refine reprObj_own (by have := c.hu; omega) I.kIn J (c.hK ▸ hfind) (c.hK ▸ hfn) ?_
            refine wpAny_mono (own_run c FC rfl hps hr (fun e => c.gd (leB_ok hgd e)) hs sr1 rx I I.env0) (fun v s' told => ?_) fun _ _ z => z
            obtain ⟨F', as', w', H', x', sr', rw', rel, I'⟩ := told
            unfold Rep at rw'
            subst rw'
            obtain ⟨tt, rfl⟩ := (show ∃ tt, v = Value.str t tt from rel)
            exact fin tt s' F' as' H' x' sr' I'
          · cases h2
        | _ => cases ht
      · cases h1
    · cases h1
  · cases h1
end
theorem str_obj {sm : Nat → Option FnI} {c : Nat} {fs : List D} {fi : FnI} {t : Str} (h1 : sm c = some fi) (h2 : ∀ μ : Sto, fi.sem [.val (.obj c fs)] μ = some (.ok (.val (.str t)), μ)) : bStrO sm [.obj c fs] = some (.val (.str t)) := by
  show (match sm c with
    | some fi => strK (ownSem fi (.obj c fs))
    | none => none) = _
  rw [h1]
  show strK (ownSem fi (.obj c fs)) = _
  rw [ownSem_eq h2]
  rfl
theorem fmtR_of {sm : Nat → Option FnI} {m : ME} {ρ : En} {μ μ1 : Sto} {d : D} {t : Str} (h : m ρ μ = some (.ok (.val d), μ1)) (ht : textO sm d = some t) (hz : t.length ≤ sizeLine) : mFmtR sm m ρ μ = some (.ok (.val (.str t)), μ1) := by
  show (andThen (m ρ μ) fun s μ1 => _) = _
  rw [h, andThen_ok]
  show fmtRK sm μ1 (some d) = _
  unfold fmtRK
  dsimp only
  rw [ht]
  all_goals first | exact if_pos hz | (dsimp only; exact if_pos hz)
/-- divmod(i, j), j above nought -/
def bDivmod : List D → Option S
  | [.int i, .int j] => if 0 < j ∧ j.natAbs.log2 < 9000 then some (.val (.tup [.int (i.fdiv j), .int (i.fmod j)])) else none
  | _ => none
theorem co_divmod {g : G} {X : Cx} : CallOk g X (.builtin "divmod") bDivmod := by
  intro xs s F as μ H vs Q e sr hx k
  unfold bDivmod at e
  split at e
  · rename_i i j
    split at e
    · rename_i hz
      cases e
      obtain ⟨v, u, rfl, h, h'⟩ := vrs2 hx
      cases vr_int h
      cases vr_int h'
      refine cc call_divmodW ⟨i, j, rfl, ⟨hz.1, PyProof.noPylong_of_log2 hz.2⟩, fun q hq => ?_⟩
      rw [← Int.fdiv_eq_ediv_of_nonneg i (by omega), ← Int.fmod_eq_emod_of_nonneg i (by omega)]
      obtain ⟨sr4, x4, e4⟩ := sr.frozen (o := .tup [V.int (i.fdiv j), V.int (i.fmod j)]) hq
      refine k _ as (.ref q) _ x4 sr4 (show Rep g _ (.tup [.int (i.fdiv j), .int (i.fmod j)]) (.ref q) from ?_)
      unfold Rep
      exact ⟨q, _, rfl, SqT.of e4, ints_rep (ns := [i.fdiv j, i.fmod j])⟩
    · cases e
  · cases e
theorem divmod_ii {i j : Int} (n : Nat) (h0 : 0 < j) (h : Bd n j) (hn : n ≤ 9000 := by decide) : bDivmod [.int i, .int j] = some (.val (.tup [.int (i.fdiv j), .int (i.fmod j)])) := by
  have e := fdiv_ii (i := i) n (show j ≠ 0 by omega) h hn
  unfold dFdiv at e
  dsimp only at e
  show (if 0 < j ∧ j.natAbs.log2 < 9000 then _ else _) = _
  split at e
  · rename_i hz
    exact if_pos ⟨h0, hz.2⟩
  · cases e
end Sz

set_option Elab.async false
set_option linter.all false
set_option maxRecDepth 100000
set_option maxHeartbeats 4000000
/-! Sz Z4: != by an own __eq__. -/
namespace Sz
open PySem PySem.Spec PyProof.Rows L2
section
variable {prog : Program} {w : World} {A : Around} {E : Value → Shared → Prop} {s : Shared} {K : PySem.W.Frag} {x C f L : Addr} {ox : Obj} {od : Option Obj} {h₀ : Heap} {m : Str → Option Value} {b tb : Value}
open PySem.W PySem.Calls
theorem ifBoundB_K {M : Model} {args : List Value} {name : Str} {id : String} {Q : Option Value → Shared → Prop} (X : K.In s.heap) (I : InstAt s.heap x ox C od) (hs : findIn K (.ref C) name = some (some (.builtin id)))
    (hb : ∀ self, bindSpecial (.builtin id) self = pure (.builtin id, [self])) (h : wpAny M A (call (.builtin id) (.ref x :: args)) (fun v => Q (some v)) E s) : wpAny M A (callSpecialIfBound? (.ref x) name args) Q E s := by
  simp only [callSpecialIfBound?, bindSpecialIfBound?]
  refine wpAny_holding (wpAny_bind (wpAny_bind (wpAny_bind (I.type.here ((looks_findIn X hs).here ?_)))))
  refine wpAny_bind (wpAny_askSetting (wpAny_ite ?_))
  have fin : wpAny M A (call (.builtin id) ([.ref x] ++ args) >>= fun v => pure (some v)) Q E s := wpAny_bind (wpAny_mono h (fun v s' h' => wpAny_pure h') fun _ _ h' => h')
  split
  · exact wpAny_bind ((Looks.of_pure (hb _)).here (wpAny_pure (by exact fin)))
  · exact wpAny_tryCatch (wpAny_bind ((Looks.of_pure (hb _)).here (wpAny_pure (by exact fin))))
open Builtin in
theorem obj_ne {Q : Value → Shared → Prop} (hu : A.in1.units < cLine) (X : K.In s.heap) (I : InstAt s.heap x ox C od) (hm : mroIn K C (.type "object") = some true) (hs : findIn K (.ref C) "__eq__" = some (some (.ref f))) (hf : isFn K (.ref f) = true)
    (h : wpAny (model prog w) A.in1 (call (.ref f) [.ref x, b]) (fun v s' => ∃ r, v = .bool r ∧ Q (.bool (!r)) s') E s) : wpAny (model prog w) A (call (.builtin "object.__ne__") [.ref x, b]) Q E s := by
  refine wpAny_call (codeAny_call_builtin PySem.F.slot_object_ne.plain PySem.F.entry_object_ne (check_slot (i := "object.__ne__") (owner := "object") (n := "__ne__") (by decide +kernel) (by decide +kernel) (I.type.andThen (looks_mroIn X hm)) (PySem.F.args_object_ne_2 _ _) ?_))
  unfold Builtin.«object.__ne__»
  repeat (first
    | with_reducible refine wpAny_cRoomFor hu ?_
    | (refine wpAny_bind (m := callSpecialIfBound? (.ref x) (Str.ofString "__eq__") [b])
        (ifBound_K X I hs hf (wpAny_mono h (fun r s' hr => by
          obtain ⟨b, rfl, hq⟩ := hr
          repeat (first | exact hq | exact wpAny_pure hq | exact wpAny_truthy_bool hq | (refine wpAny_bind (m := truthy (.bool _)) (wpAny_truthy_bool ?_)) | wp_step)) fun _ _ e => e)))
    | wp_step)
theorem ne_K {Q : Value → Shared → Prop} (hu : A.units < cLine) (hu1 : A.in1.units < cLine) (F : Fr h₀ L s.heap m) (X₀ : K.In h₀) (I : InstAt s.heap x ox C od) (hb : Looks (model prog w) s.heap (typeOf b) tb) (hn : notFirst K C tb = true)
    (hne : findIn K (.ref C) "__ne__" = some (some (.builtin "object.__ne__"))) (hm : mroIn K C (.type "object") = some true) (hs : findIn K (.ref C) "__eq__" = some (some (.ref f))) (hf : isFn K (.ref f) = true)
    (h : wpAny (model prog w) A.in1 (call (.ref f) [.ref x, b]) (fun v s' => ∃ r, v = .bool r ∧ Q (.bool (!r)) s') E s) : wpAny (model prog w) A (richCompare .NotEq (.ref x) b) Q E s := by
  have X := X₀.keeps F.keep
  have one : wpAny (model prog w) A (tryCompare (.ref x) (cmpInfo .NotEq).2.1 b) (fun r s' => ∃ v, r = some v ∧ Q v s') E s := by
    unfold tryCompare
    refine wpAny_bind (ifBoundB_K X I (name := "__ne__") hne PySem.F.slot_object_ne.bind (obj_ne hu1 X I hm hs hf (wpAny_mono h (fun v s' hv => ?_) fun _ _ e => e)))
    obtain ⟨r, rfl, hq⟩ := hv
    exact ⟨r, rfl, wpAny_pure ⟨_, rfl, hq⟩⟩
  unfold richCompare
  simp only [oneThing_ref]
  refine wpAny_holding (wpAny_bind (wpAny_cRoomFor hu ?_))
  refine wpAny_bind (I.type.here (wpAny_bind (hb.here ?_)))
  split
  · rename_i q
    have e : subIn K tb (.ref C) = some false := by
      rcases Bool.or_eq_true_iff.mp hn with e | e
      · rw [beq_iff_eq.mp e] at q; simp at q
      · exact beq_iff_eq.mp e
    refine wpAny_bind ((looks_subIn X e).here ?_)
    simp only [Bool.false_eq_true, if_false]
    refine wpAny_bind (wpAny_mono one (fun r s' z => ?_) fun _ _ e => e)
    obtain ⟨v, rfl, hq⟩ := z
    exact wpAny_pure hq
  · refine wpAny_bind (wpAny_pure ?_)
    simp only [Bool.false_eq_true, if_false]
    refine wpAny_bind (wpAny_mono one (fun r s' z => ?_) fun _ _ e => e)
    obtain ⟨v, rfl, hq⟩ := z
    exact wpAny_pure hq
end
/-! ### != of two own objects -/
noncomputable def dNeO (eqm : Nat → Option FnI) : D → D → Option S
  | .obj c fs, .obj c' gs => (match eqm c, eqm c' with
    | some fi, some _ => (match eqSem fi (.obj c fs) (.obj c' gs) with
      | some (.val (.bl r)) => some (.val (.bl (!r)))
      | _ => none)
    | _, _ => none)
  | x, y => dNe x y
/-- the classes have no own __ne__ -/
structure NeC (g : G) (eqm : Nat → Option FnI) : Prop where
  ne : ∀ c fi, eqm c = some fi → PySem.W.findIn g.K (.ref (g.cad c)) "__ne__" = some (some (.builtin "object.__ne__")) ∧ PySem.W.mroIn g.K (g.cad c) (.type "object") = some true
section
variable {g : G} {P : Program} {w : World} {mg : Str → Option Value} {base : Heap} {k : Nat} {N : List Str} {sc : Scope} {own cm gb gc : Bool} {X : Cx} {W : WX}
theorem own_run2 {fi : FnI} {f : Addr} {j : Nat} {sh : List (Nat × List Str)} (c : Ct g P w mg base k N sc own cm gb X W) (FC : FnC gc g P w mg base fi j f sh) (hsh : sh.contains (2, []) = true) (hps : fi.ps.length = 2) {A : Around} (room : Room j A) (gd : gc = true → A.guards = some [])
    {F : Hp} {as : List Addr} {μ : Sto} {H : Hp} {σ : L2.St} {pins : List (Addr × Obj)} {st : Shared} {x y d : D} {a b : Addr} (hs : ∀ ν : Sto, fi.sem [.val x, .val y] ν = some (.ok (.val d), ν)) (sr : SR g F as μ H) (rx : Rep g F x (.ref a)) (ry : Rep g F y (.ref b)) (I : Inv X pins σ H st)
    (en : Env0 X.prog X.w X.K X.mg X.base A X.stack st H) :
    wpAny (model X.prog X.w) A (call (.ref f) [.ref a, .ref b]) (fun v s' => ∃ F' as' w H', Ext F as F' as' ∧ SR g F' as' μ H' ∧ Rep g F' d w ∧ RelV w v ∧ Inv X pins σ H' s') X.xe st := by
  obtain ⟨fd, dvs, ok, bnd, rd⟩ := FC.ok
  obtain ⟨ds, rds, hb⟩ := (bnd (2, []) (List.contains_iff_mem.mp hsh)).to
  obtain ⟨b', e1, e2⟩ := hb st [.ref a, .ref b] [] (c.hK ▸ I.kIn) rfl rfl
  have eb : b' = [Value.ref a, Value.ref b] := by
    match hp : fi.ps, hps with
    | [p, q], _ =>
      rw [hp] at e1
      exact (Option.some.inj e1).symm
  subst eb
  have en' : Env0 P w g.K mg base A X.stack st H := by
    have := en
    rw [c.hP, c.hw, c.hK, c.hmg, c.hb] at this
    exact this
  have ask : spOf g fi.ps.length fi.sem [V.ref a, V.ref b] H (fun w H' => ∃ F' as', Ext F as F' as' ∧ SR g F' as' μ H' ∧ Rep g F' d w) (fun _ _ _ => False) := by
    refine ⟨hps.symm, F, as, [.val x, .val y], μ, _, μ, sr, .cons rx (.cons ry .nil), hs μ, fun F' as' v H' e sr' ra => ?_⟩
    exact ⟨F', as', e, sr', ra⟩
  rw [c.hP, c.hw]
  refine wpAny_call (codeAny_mono (ok.go A X.stack st H ⟨[.ref a, .ref b], []⟩ [.ref a, .ref b] [.ref a, .ref b] _ _ room gd en' e2 (.cons rfl (.cons rfl .nil)) ask) fun r s' told => ?_)
  cases r with
  | error e =>
    obtain ⟨_, _, _, _, _, _, _, _, _, _, _, _, z⟩ := told
    exact z.elim
  | ok fl =>
    cases fl with
    | ret u =>
      have told' : CE X.stack X.prog X.w H st (fun w H' => ∃ F' as', Ext F as F' as' ∧ SR g F' as' μ H' ∧ Rep g F' d w) u s' := by
        rw [c.hP, c.hw]
        exact told
      obtain ⟨v, H', I', rv, F', as', e, sr', ra⟩ := I.after told'
      exact ⟨F', as', v, H', e, sr', ra, rv, I'⟩
    | next => exact False.elim told
    | brk => exact False.elim told
    | cont => exact False.elim told
theorem Ct.neo {eqm : Nat → Option FnI} {j : Nat} (c : Ct g P w mg base k N sc own true gb X W) (E : EqC gc g P w mg base eqm j) (En : NeC g eqm) (hgd : leB gc gb = true) (hj : Nat.ble (j + 1) k = true) : OpOk g X (compareOp .NotEq) (dNeO eqm) := by
  intro x y s F as μ H v u Q e sr hx hy kk
  unfold dNeO at e
  split at e
  · rename_i ci fs ci' gs
    split at e
    · rename_i fi fi' hfi hfi'
      split at e
      · rename_i r he
        cases e
        obtain ⟨d, e2, hs⟩ := eqSem_some he
        cases e2
        obtain ⟨a, dx, vs, rfl, ha, _, _⟩ := vr_obj sr hx
        obtain ⟨b, dy, us, rfl, hb, _, _⟩ := vr_obj sr hy
        obtain ⟨f, hF, hfind, hfn, hps⟩ := E.ok ci fi hfi
        obtain ⟨hne, hm⟩ := En.ne ci fi hfi
        have hnf := E.nf ci ci' fi fi' hfi hfi'
        have hr := (c.room rfl).mono (Nat.le_of_ble_eq_true hj)
        have hK := c.K
        intro pins st σ v' u' I rv ru
        cases (show v' = Value.ref a from rv)
        cases (show u' = Value.ref b from ru)
        obtain ⟨mA, J, _⟩ := ins_get I.hok ha
        obtain ⟨mB, J', _⟩ := ins_get I.hok hb
        obtain ⟨od, J, _⟩ := J.look
        obtain ⟨od', J', _⟩ := J'.look
        obtain ⟨m, hFr⟩ := I.fr
        have rx : Rep g F (.obj ci fs) (.ref a) := by
          rcases hx with ⟨_, _, _, q, _⟩ | hx
          · cases q
          · exact hx
        have ry : Rep g F (.obj ci' gs) (.ref b) := by
          rcases hy with ⟨_, _, _, q, _⟩ | hy
          · cases q
          · exact hy
        show wpAny (model X.prog X.w) X.A (richCompare .NotEq (.ref a) (.ref b)) (EP X pins σ Q) X.xe st
        refine ne_K (tb := .ref (g.cad ci')) hr.units0 (by have := hr.in1.un; omega) hFr I.ok.mod.kin J J'.type (hK ▸ hnf) (hK ▸ hne) (hK ▸ hm) (hK ▸ hfind) (hK ▸ hfn) ?_
        refine wpAny_mono (own_run2 c hF rfl hps hr.in1 (fun e => c.gd (leB_ok hgd e)) hs sr rx ry I I.env0.in1) (fun v s' told => ?_) fun _ _ z => z
        obtain ⟨F', as', w', H', x', sr', rw', rel, I'⟩ := told
        unfold Rep at rw'
        subst rw'
        cases (show v = Value.bool r from rel)
        exact ⟨r, rfl, .bl (!r), H', I', rfl, kk F' as' _ H' x' sr' ra_bl⟩
      · cases e
    · cases e
  · exact ok_ne c.K c.hu64 _ _ s F as μ H v u Q e sr hx hy kk
end
theorem neO_some {eqm : Nat → Option FnI} {c c' : Nat} {fs gs : List D} {fi fi' : FnI} {r : Bool} (h1 : eqm c = some fi) (h2 : eqm c' = some fi') (h : ∀ μ : Sto, fi.sem [.val (.obj c fs), .val (.obj c' gs)] μ = some (.ok (.val (.bl r)), μ)) : dNeO eqm (.obj c fs) (.obj c' gs) = some (.val (.bl (!r))) := by
  show (match eqm c, eqm c' with
    | some fi, some _ => (match eqSem fi (.obj c fs) (.obj c' gs) with
      | some (.val (.bl r)) => some (S.val (.bl (!r)))
      | _ => none)
    | _, _ => none) = _
  rw [h1, h2]
  show (match eqSem fi (.obj c fs) (.obj c' gs) with
      | some (.val (.bl r)) => some (S.val (.bl (!r)))
      | _ => none) = _
  rw [eqSem_eq h]
end Sz

set_option Elab.async false
set_option linter.all false
set_option maxRecDepth 100000
set_option maxHeartbeats 4000000
/-! Sz Z5: == of tuples that hold own objects, of None and own objects. -/
namespace Sz
open PySem PySem.Spec PyProof.Rows L2
/-! ### the loop, with an early end -/
section
open PySem.SeqAt
open AutoSeq1 (wpAny_loadPart')
open MeetsSeq MeetsSeq2 MeetsSeq3 SeqRoads2
variable {prog : Program} {w : World} {A : Around} {R : Result → Shared → Prop}
theorem tuple_eqJ (l b : Addr) (items items2 : Array Value) (n n2 : Nat) (dd dd2 : Option Addr) (sl sl2 : Array (Option Value)) (I : Nat → Shared → Prop)
    (turn : ∀ i (h1 : i < items.size) (h2 : i < items2.size) s, I i s → wpAny (model prog w) A.in1 (eqBool items[i] items2[i]) (fun r s' => (r = true ∧ I (i + 1) s') ∨ (r = false ∧ R (.ok (.ret (.bool false))) s')) (fun e s' => R (.error e) s') s)
    (fin : ∀ s, I (min items.size items2.size) s → R (.ok (.ret (.bool (items.size == items2.size)))) s) {s : Shared} (hl1 : s.heap.get? l = some { cls := .type "tuple", dict := dd, data := .seq items n, slots := sl }) (hb1 : s.heap.get? b = some { cls := .type "tuple", dict := dd2, data := .seq items2 n2, slots := sl2 }) (h : I 0 s) :
    wpAny (model prog w) A.in1 (Builtin.«tuple.__eq__» ⟨[.ref l, .ref b], []⟩) (GQ.FinOf prog w A R) (fun e s' => R (.error e) s') s := by
  have f2 := AutoSeq1.sub_tuple_tuple
  have hZ : (items.toList.zip items2.toList).length = min items.size items2.size := by simp
  have h0 := h
  obtain ⟨hp, g, d, tk, os⟩ := s
  wp_walk using wpAny_loadPart' hl1, wpAny_loadPart' hb1, wpAny_forIn_list _ (fun rest b s' => b.1 = none ∧ ∃ i, rest = (items.toList.zip items2.toList).drop i ∧ i ≤ min items.size items2.size ∧ I i s') _
  case turn =>
    rintro ⟨y, x⟩ rest b s' ⟨hb', i, hz, hi, hI⟩
    have hlt : i < (items.toList.zip items2.toList).length := by
      rcases Nat.lt_or_ge i (items.toList.zip items2.toList).length with h' | h'
      · exact h'
      · rw [List.drop_of_length_le h'] at hz; cases hz
    have hm : i < min items.size items2.size := hZ ▸ hlt
    have h1 : i < items.size := Nat.lt_of_lt_of_le hm (Nat.min_le_left _ _)
    have h2 : i < items2.size := Nat.lt_of_lt_of_le hm (Nat.min_le_right _ _)
    rw [List.drop_eq_getElem_cons hlt] at hz
    injection hz with hyx hrest
    have hy : y = items[i] := by have := congrArg Prod.fst hyx; simpa using this
    have hx : x = items2[i] := by have := congrArg Prod.snd hyx; simpa using this
    subst hy hx
    refine wpAny_bind (wpAny_mono (turn i h1 h2 s' hI) (fun r s2 q2 => ?_) fun _ _ x => x)
    rcases q2 with ⟨hr, q2⟩ | ⟨hr, q2⟩
    · subst hr
      wp_walk
      exact ⟨rfl, i + 1, hrest, hm, q2⟩
    · subst hr
      wp_walk
      simpa using q2
  case fin =>
    rintro ⟨b1, b2⟩ s' ⟨hb', i, hz, hi, hI⟩
    simp only at hb'
    subst hb'
    have hge : min items.size items2.size ≤ i := by
      rcases Nat.lt_or_ge i (items.toList.zip items2.toList).length with h' | h'
      · rw [List.drop_eq_getElem_cons h'] at hz; cases hz
      · exact hZ ▸ h'
    have hi' : i = min items.size items2.size := by omega
    have hR := fin s' (hi' ▸ hI)
    wp_walk
    simpa [Builtin.Tuple.tupleCompareSizes] using hR
  case h =>
    exact ⟨rfl, 0, rfl, Nat.zero_le _, h0⟩
/-- at each turn the two lists are read anew -/
def ListJ (prog : Program) (w : World) (A : Around) (R : Result → Shared → Prop) (l b : Addr) (N : Nat) (I : Nat → Shared → Prop) : Prop :=
  ∀ i s, I i s → ∃ (items items2 : Array Value) (n n2 : Nat), s.heap.get? l = some { cls := .type "list", data := .seq items n } ∧ s.heap.get? b = some { cls := .type "list", data := .seq items2 n2 } ∧ items.size = N ∧ items2.size = N ∧
    ∀ (h1 : i < items.size) (h2 : i < items2.size), wpAny (model prog w) A.in1 (eqBool items[i] items2[i]) (fun r s' => (r = true ∧ I (i + 1) s') ∨ (r = false ∧ I i s' ∧ R (.ok (.ret (.bool false))) s')) (fun e s' => R (.error e) s') s
theorem eq_loopJ (l b : Addr) (N : Nat) (I : Nat → Shared → Prop) (hl : ListJ prog w A R l b N I)
    (fin : ∀ s, I N s → R (.ok (.ret (.bool true))) s) (k : Nat) :
    ∀ i : Nat, N - i = k → i ≤ N → ∀ s, I i s →
      wpAny (model prog w) A.in1 (Builtin.«list.__eq__.loop» ⟨[.ref l, .ref b, rawInt i, rawInt 2], []⟩) (GQ.FinOf prog w A R) (fun e s' => R (.error e) s') s := by
  induction k with
  | zero =>
    intro i hk hi s h
    obtain ⟨items, items2, n, n2, hl1, hb1, hs1, hs2, _⟩ := hl _ _ h
    have hi' : i = N := by omega
    have hR : R (.ok (.ret (.bool true))) s := fin s (hi' ▸ h)
    obtain ⟨hp, g, d, tk, os⟩ := s
    wp_walk using wpAny_loadPart' hl1, wpAny_loadPart' hb1
    have hi1 : items[((i : Nat) : Int).toNat]? = none := by simp; omega
    have hi2 : items2[((i : Nat) : Int).toNat]? = none := by simp; omega
    rw [hi1, hi2]
    wp_walk using wpAny_loadPart' hl1, wpAny_loadPart' hb1
    show R (.ok (.ret (.bool (items.size == items2.size)))) _
    rw [hs1, hs2]
    simpa using hR
  | succ k ih =>
    intro i hk hi s h
    obtain ⟨items, items2, n, n2, hl1, hb1, hs1, hs2, turn⟩ := hl _ _ h
    have hlt : i < items.size := by omega
    have hlt2 : i < items2.size := by omega
    have ht := turn hlt hlt2
    obtain ⟨hp, g, d, tk, os⟩ := s
    wp_walk using wpAny_loadPart' hl1, wpAny_loadPart' hb1
    have hi1 : items[((i : Nat) : Int).toNat]? = some items[i] := by simp [hlt]
    have hi2 : items2[((i : Nat) : Int).toNat]? = some items2[i] := by simp [hlt2]
    have hc : ((i : Int) + 1) = ((i + 1 : Nat) : Int) := by omega
    rw [hi1, hi2]
    refine wpAny_bind (wpAny_mono ht (fun r s2 h2 => ?_) fun _ _ x => x)
    rcases h2 with ⟨hr, h2⟩ | ⟨hr, hI, h2⟩
    · subst hr
      have hrec := ih (i + 1) (by omega) (by omega) s2 h2
      obtain ⟨hp2, g2, d2, tk2, os2⟩ := s2
      wp_walk
      rw [hc]
      exact ⟨plainId_quiet plain_eq_loop _, codeAny_builtin entry_eq_loop (by
        rw [Around.under_plainId plain_eq_loop _]
        exact hrec)⟩
    · subst hr
      obtain ⟨items', items2', n', n2', hl1', hb1', hs1', hs2', _⟩ := hl _ _ hI
      obtain ⟨hp2, g2, d2, tk2, os2⟩ := s2
      wp_walk using wpAny_loadPart' hl1', wpAny_loadPart' hb1'
      have hi1' : items'[((i : Nat) : Int).toNat]? = some (items'[i]'(by omega)) := by simp
      have hi2' : items2'[((i : Nat) : Int).toNat]? = some (items2'[i]'(by omega)) := by simp
      rw [hi1', hi2']
      wp_walk
      simpa using h2
theorem list_eqJ (l b : Addr) (N : Nat) (I : Nat → Shared → Prop) (hl : ListJ prog w A R l b N I)
    (fin : ∀ s, I N s → R (.ok (.ret (.bool true))) s) {s : Shared} (h : I 0 s) :
    wpAny (model prog w) A.in1 (Builtin.«list.__eq__» ⟨[.ref l, .ref b], []⟩) (GQ.FinOf prog w A R) (fun e s' => R (.error e) s') s := by
  obtain ⟨items, items2, n, n2, hl1, hb1, hs1, hs2, _⟩ := hl _ _ h
  have hrec := eq_loopJ (A := A) (R := R) l b N I hl fin _ 0 rfl (Nat.zero_le _) s h
  obtain ⟨hp, g, d, tk, os⟩ := s
  have f3 := AutoSeq1.sub_list_list
  have hne : ¬ (items.size != items2.size) = true := by simp [hs1, hs2]
  wp_walk using wpAny_loadPart' hl1, wpAny_loadPart' hb1
  exact ⟨plainId_quiet plain_eq_loop _, codeAny_builtin entry_eq_loop (by
    rw [Around.under_plainId plain_eq_loop _]
    exact hrec)⟩
end
section
variable {prog : Program} {w : World} {A : Around} {E : Value → Shared → Prop} {s : Shared}
theorem rc_tupJ {l b : Addr} {items items2 : Array Value} {Q : Value → Shared → Prop} (hu : A.units < cLine) (I : Nat → Shared → Prop)
    (hl : s.heap.IsTuple l items) (hb : s.heap.IsTuple b items2)
    (turn : ∀ i (h1 : i < items.size) (h2 : i < items2.size) s, I i s → wpAny (model prog w) A.in1 (eqBool items[i] items2[i]) (fun r s' => (r = true ∧ I (i + 1) s') ∨ (r = false ∧ Q (.bool false) s')) E s)
    (fin : ∀ s, I (min items.size items2.size) s → Q (.bool (items.size == items2.size)) s) (h : I 0 s) : wpAny (model prog w) A (richCompare .Eq (.ref l) (.ref b)) Q E s := by
  obtain ⟨⟨cls, dd, data, sl⟩, ho, hc, n, hd⟩ := id hl
  obtain ⟨⟨cls2, dd2, data2, sl2⟩, ho2, hc2, n2, hd2⟩ := id hb
  simp only at hc hd hc2 hd2
  subst hc hd hc2 hd2
  refine wpAny_richCompare_same_room (op := .Eq) ⟨_, ho, rfl⟩ ⟨_, ho2, rfl⟩ F.slot_tuple_eq (GQ.call_here F.slot_tuple_eq ⟨_, ho, rfl⟩ F.entry_tuple_eq (F.args_tuple_eq_2 _ _) ?_) hu
  refine tuple_eqJ (R := wants (fun v s' => v ≠ .notImplemented ∧ Q v s') E) l b items items2 n n2 dd dd2 sl sl2 I (fun i h1 h2 s hI => wpAny_mono (turn i h1 h2 s hI) (fun r s' q => ?_) fun _ _ x => x) (fun s' q => ⟨(fun x => nomatch x), fin s' q⟩) ho ho2 h
  rcases q with q | ⟨q1, q2⟩
  · exact .inl q
  · exact .inr ⟨q1, (fun x => nomatch x), q2⟩
theorem rc_listJ {l b : Addr} {N : Nat} {Q : Value → Shared → Prop} (hu : A.units < cLine) (I : Nat → Shared → Prop)
    (hl : ∀ i s, I i s → ∃ (items items2 : Array Value) (n n2 : Nat), s.heap.get? l = some { cls := .type "list", data := .seq items n } ∧ s.heap.get? b = some { cls := .type "list", data := .seq items2 n2 } ∧ items.size = N ∧ items2.size = N ∧
      ∀ (h1 : i < items.size) (h2 : i < items2.size), wpAny (model prog w) A.in1 (eqBool items[i] items2[i]) (fun r s' => (r = true ∧ I (i + 1) s') ∨ (r = false ∧ I i s' ∧ Q (.bool false) s')) E s)
    (fin : ∀ s, I N s → Q (.bool true) s) (h : I 0 s) : wpAny (model prog w) A (richCompare .Eq (.ref l) (.ref b)) Q E s := by
  obtain ⟨items, items2, n, n2, hl1, hb1, _, _, _⟩ := hl _ _ h
  refine wpAny_richCompare_same_room (op := .Eq) ⟨_, hl1, rfl⟩ ⟨_, hb1, rfl⟩ F.slot_list_eq (GQ.call_here F.slot_list_eq ⟨_, hl1, rfl⟩ F.entry_list_eq (F.args_list_eq_2 _ _) ?_) hu
  refine list_eqJ (R := wants (fun v s' => v ≠ .notImplemented ∧ Q v s') E) l b N I (fun i s hI => ?_) (fun s' q => ⟨(fun x => nomatch x), fin s' q⟩) h
  obtain ⟨items, items2, n, n2, hl1, hb1, hs1, hs2, turn⟩ := hl i s hI
  refine ⟨items, items2, n, n2, hl1, hb1, hs1, hs2, fun h1 h2 => wpAny_mono (turn h1 h2) (fun r s' q => ?_) fun _ _ x => x⟩
  rcases q with q | ⟨q1, q2, q3⟩
  · exact .inl q
  · exact .inr ⟨q1, q2, (fun x => nomatch x), q3⟩
open PySem.W in
/-- None == an own object -/
theorem none_rc {K : PySem.W.Frag} {x C f : Addr} {ox : Obj} {od : Option Obj} {Q : Value → Shared → Prop} (hu : A.units < cLine) (X : K.In s.heap) (I : InstAt s.heap x ox C od) (hn : subIn K (.ref C) (.type "NoneType") = some false)
    (hs : findIn K (.ref C) "__eq__" = some (some (.ref f))) (hf : isFn K (.ref f) = true)
    (h : wpAny (model prog w) A (call (.ref f) [.ref x, .none]) (PySem.W.CmpBack Q) E s) : wpAny (model prog w) A (richCompare .Eq .none (.ref x)) Q E s := by
  have one : wpAny (model prog w) A (tryCompare (.ref x) "__eq__" .none) (fun r s' => ∃ v, r = some v ∧ Q v s') E s := by
    unfold tryCompare
    refine wpAny_bind (ifBound_K X I hs hf (wpAny_mono h (fun v s' hv => ?_) fun _ _ e => e))
    cases v <;> first | exact hv.elim | exact wpAny_pure ⟨_, rfl, hv⟩
  have ht : s.TypeIs .none "NoneType" := rfl
  rcases hi : cmpInfo CmpOp.Eq with ⟨sym, f1, f2⟩
  have hi2 : cmpInfo CmpOp.Eq = ("==", ("__eq__" : Str), ("__eq__" : Str)) := rfl
  simp only [richCompare, hi, ht.oneThing_none]
  rw [hi2] at hi
  cases hi
  refine wpAny_holding (wpAny_bind (wpAny_cRoomFor hu ?_))
  refine wpAny_bind (wpAny_typeOf ht (wpAny_bind (I.type.here ?_)))
  rw [if_pos (by rfl)]
  refine wpAny_bind ((looks_subIn X hn).here ?_)
  simp only [Bool.false_eq_true, if_false, Bool.not_false, if_true]
  refine wpAny_bind (m := tryCompare .none _ (.ref x)) (wpAny_tryCompare_declines ht F.slot_NoneType_eq (call_gives F.slot_NoneType_eq rfl F.entry_NoneType_eq (F.args_NoneType_eq_2 _ _) (PySem.SeqAt.NoneType___eq___none_ref_0 x) ⟨rfl, ?_⟩))
  refine wpAny_bind (m := tryCompare (.ref x) _ .none) (wpAny_mono one (fun r s' z => ?_) fun _ _ e => e)
  obtain ⟨v, rfl, hq⟩ := z
  exact wpAny_pure hq

/-- None != an own object -/
theorem none_ne {K : PySem.W.Frag} {x C f : Addr} {ox : Obj} {od : Option Obj} {Q : Value → Shared → Prop} (hu : A.units < cLine) (hu1 : A.in1.units < cLine) (X : K.In s.heap) (I : PySem.W.InstAt s.heap x ox C od) (hn : PySem.W.subIn K (.ref C) (.type "NoneType") = some false)
    (hne : PySem.W.findIn K (.ref C) "__ne__" = some (some (.builtin "object.__ne__"))) (hm : PySem.W.mroIn K C (.type "object") = some true) (hs : PySem.W.findIn K (.ref C) "__eq__" = some (some (.ref f))) (hf : PySem.W.isFn K (.ref f) = true)
    (h : wpAny (model prog w) A.in1 (call (.ref f) [.ref x, .none]) (fun v s' => ∃ r, v = .bool r ∧ Q (.bool (!r)) s') E s) : wpAny (model prog w) A (richCompare .NotEq .none (.ref x)) Q E s := by
  have one : wpAny (model prog w) A (tryCompare (.ref x) "__ne__" .none) (fun r s' => ∃ v, r = some v ∧ Q v s') E s := by
    unfold tryCompare
    refine wpAny_bind (ifBoundB_K X I (name := "__ne__") hne PySem.F.slot_object_ne.bind (obj_ne hu1 X I hm hs hf (wpAny_mono h (fun v s' hv => ?_) fun _ _ e => e)))
    obtain ⟨r, rfl, hq⟩ := hv
    exact ⟨r, rfl, wpAny_pure ⟨_, rfl, hq⟩⟩
  have ht : s.TypeIs .none "NoneType" := rfl
  rcases hi : cmpInfo CmpOp.NotEq with ⟨sym, f1, f2⟩
  have hi2 : cmpInfo CmpOp.NotEq = ("!=", ("__ne__" : Str), ("__ne__" : Str)) := rfl
  simp only [richCompare, hi, ht.oneThing_none]
  rw [hi2] at hi
  cases hi
  refine wpAny_holding (wpAny_bind (wpAny_cRoomFor hu ?_))
  refine wpAny_bind (wpAny_typeOf ht (wpAny_bind (I.type.here ?_)))
  rw [if_pos (by rfl)]
  refine wpAny_bind ((PySem.W.looks_subIn X hn).here ?_)
  simp only [Bool.false_eq_true, if_false, Bool.not_false, if_true]
  refine wpAny_bind (m := tryCompare .none _ (.ref x)) (wpAny_tryCompare_declines ht F.slot_NoneType_ne (call_gives F.slot_NoneType_ne rfl F.entry_NoneType_ne (F.args_NoneType_ne_2 _ _) (PySem.SeqAt.NoneType___ne___none_ref_0 x) ⟨rfl, ?_⟩))
  refine wpAny_bind (m := tryCompare (.ref x) _ .none) (wpAny_mono one (fun r s' z => ?_) fun _ _ e => e)
  obtain ⟨v, rfl, hq⟩ := z
  exact wpAny_pure hq
end
/-! ### the code -/
/-- two trees that never are one value -/
def Apart (x y : D) : Prop := ∀ (g : G) (F : Hp) (v : V), Rep g F x v → Rep g F y v → False
def eqF (x y : D) : Option Bool := match flat? x, flat? y with
  | some u, some v => some (eqV u v)
  | _, _ => none
open Classical in
/-- an own __eq__ -/
noncomputable def eqOwn (eqm : Nat → Option FnI) (c : Nat) (x y : D) : Option Bool := match eqm c with
  | some fi => (match eqSem fi x y with
    | some (.val (.bl true)) => some true
    | some (.val (.bl false)) => if Apart x y then some false else none
    | _ => none)
  | none => none
def eqL (eq : D → D → Option Bool) : List D → List D → Option Bool
  | [], ys => some ys.isEmpty
  | _ :: _, [] => some false
  | x :: xs, y :: ys => match eq x y with
    | some true => eqL eq xs ys
    | some false => some false
    | none => none
noncomputable def eqN (eqm : Nat → Option FnI) : Nat → D → D → Option Bool
  | 0, x, y => eqF x y
  | n + 1, .tup xs, .tup ys => eqL (eqN eqm n) xs ys
  | _ + 1, .obj c fs, .obj c' gs => if (eqm c').isSome then eqOwn eqm c (.obj c fs) (.obj c' gs) else none
  | _ + 1, .obj c fs, .non => eqOwn eqm c (.obj c fs) .non
  | _ + 1, .non, .obj c fs => eqOwn eqm c (.obj c fs) .non
  | _ + 1, x, y => eqF x y
/-- no own object is a None -/
structure NnC (g : G) (eqm : Nat → Option FnI) : Prop where
  nn : ∀ c fi, eqm c = some fi → PySem.W.notFirst g.K (g.cad c) (.type "NoneType") = true ∧ PySem.W.subIn g.K (.ref (g.cad c)) (.type "NoneType") = some false
theorem eqOwn_some {eqm : Nat → Option FnI} {c : Nat} {x y : D} {b : Bool} (h : eqOwn eqm c x y = some b) : ∃ fi, eqm c = some fi ∧ (∀ μ : Sto, fi.sem [.val x, .val y] μ = some (.ok (.val (.bl b)), μ)) ∧ (b = false → Apart x y) := by
  unfold eqOwn at h
  split at h
  · rename_i fi hfi
    split at h
    · rename_i hs
      cases h
      obtain ⟨d, e, hs⟩ := eqSem_some hs
      cases e
      exact ⟨fi, hfi, hs, fun e => by cases e⟩
    · rename_i hs
      split at h
      · rename_i ha
        cases h
        obtain ⟨d, e, hs⟩ := eqSem_some hs
        cases e
        exact ⟨fi, hfi, hs, fun _ => ha⟩
      · cases h
    · cases h
  · cases h
theorem eqOwn_true {eqm : Nat → Option FnI} {c : Nat} {x y : D} {fi : FnI} (h : eqm c = some fi) (hs : ∀ μ : Sto, fi.sem [.val x, .val y] μ = some (.ok (.val (.bl true)), μ)) : eqOwn eqm c x y = some true := by
  unfold eqOwn
  rw [h]
  dsimp only
  rw [eqSem_eq hs]
theorem eqOwn_false {eqm : Nat → Option FnI} {c : Nat} {x y : D} {fi : FnI} (h : eqm c = some fi) (hs : ∀ μ : Sto, fi.sem [.val x, .val y] μ = some (.ok (.val (.bl false)), μ)) (ha : Apart x y) : eqOwn eqm c x y = some false := by
  unfold eqOwn
  rw [h]
  dsimp only
  rw [eqSem_eq hs]
  dsimp only
  rw [if_pos ha]
/-- objects of one class that have unlike fields -/
theorem zip_inj2 {α β : Type} : ∀ {l : List α} {a b : List β}, a.length = l.length → b.length = l.length → l.zip a = l.zip b → a = b
  | [], [], [], _, _, _ => rfl
  | x :: l, y :: a, z :: b, h1, h2, h => by
    rw [List.zip_cons_cons, List.zip_cons_cons] at h
    injection h with h3 h4
    injection h3 with _ h5
    rw [h5, zip_inj2 (Nat.succ.inj h1) (Nat.succ.inj h2) h4]
theorem apart_obj {c : Nat} {fs gs : List D} {i : Nat} {x y : D} (h1 : fs[i]? = some x) (h2 : gs[i]? = some y) (h : Apart x y) : Apart (.obj c fs) (.obj c gs) := by
  intro g F v r1 r2
  unfold Rep at r1 r2
  obtain ⟨a, dx, vs, rfl, e1, l1, r1⟩ := r1
  obtain ⟨b, dy, us, e, e2, l2, r2⟩ := r2
  cases e
  rw [e1] at e2
  injection e2 with e2
  injection e2 with _ _ e2
  have e3 := zip_inj2 l1 l2 e2
  subst e3
  obtain ⟨u, hu, ru⟩ := r1.get h1
  obtain ⟨u', hu', ru'⟩ := r2.get h2
  rw [hu] at hu'
  cases hu'
  exact h g F u ru ru'
theorem apart_int {i j : Int} (h : i ≠ j) : Apart (.int i) (.int j) := fun g F v r1 r2 => by
  unfold Rep at r1 r2
  rw [r1] at r2
  cases r2
  exact h rfl
theorem apart_str {i j : Str} (h : i ≠ j) : Apart (.str i) (.str j) := fun g F v r1 r2 => by
  unfold Rep at r1 r2
  rw [r1] at r2
  cases r2
  exact h rfl
theorem apart_bl {i j : Bool} (h : i ≠ j) : Apart (.bl i) (.bl j) := fun g F v r1 r2 => by
  unfold Rep at r1 r2
  rw [r1] at r2
  cases r2
  exact h rfl
theorem apart_objnon {c : Nat} {fs : List D} : Apart (.obj c fs) .non := fun g F v r1 r2 => by
  unfold Rep at r1 r2
  obtain ⟨a, dx, vs, rfl, _⟩ := r1
  cases r2
theorem apart_nonobj {c : Nat} {fs : List D} : Apart .non (.obj c fs) := fun g F v r1 r2 => apart_objnon g F v r2 r1
theorem eqV_self : ∀ {u : V}, flatV u = true → eqV u u = true
  | .non, _ => rfl
  | .bl a, _ => by show (a == a) = true; simp
  | .int a, _ => by show (a == a) = true; simp
  | .str a, _ => by show (a == a) = true; simp
theorem eqF_apart {x y : D} {g : G} {F : Hp} {v : V} (h : eqF x y = some false) (r1 : Rep g F x v) (r2 : Rep g F y v) : False := by
  unfold eqF at h
  split at h
  · rename_i u w hu hw
    obtain ⟨e1, f1⟩ := flat_rep hu r1
    obtain ⟨e2, f2⟩ := flat_rep hw r2
    subst e1 e2
    rw [eqV_self f1] at h
    cases h
  · cases h
section
variable {g : G} {P : Program} {w : World} {mg : Str → Option Value} {base : Heap} {k : Nat} {N : List Str} {sc : Scope} {own cm gb gc : Bool} {X : Cx} {W : WX}
theorem eqL_apart {eq : D → D → Option Bool} {F : Hp} (h : ∀ x y v, eq x y = some false → Rep g F x v → Rep g F y v → False) : ∀ {xs ys : List D} {vs : List V}, eqL eq xs ys = some false → Reps g F xs vs → Reps g F ys vs → False
  | [], [], vs, e, r1, r2 => by cases e
  | [], y :: ys, vs, e, r1, r2 => by
    have l1 := r1.length
    have l2 := r2.length
    have l3 := l1.symm.trans l2
    simp at l3
  | x :: xs, [], vs, e, r1, r2 => by
    have l1 := r1.length
    have l2 := r2.length
    have l3 := l1.symm.trans l2
    simp at l3
  | x :: xs, y :: ys, vs, e, r1, r2 => by
    obtain ⟨v, r, e1, r3, r4⟩ := Reps.cons_iff.mp r1
    obtain ⟨v', r', e2, r5, r6⟩ := Reps.cons_iff.mp r2
    rw [e1] at e2
    injection e2 with e3 e4
    subst e3 e4
    unfold eqL at e
    split at e
    · exact eqL_apart h e r4 r6
    · rename_i q
      exact h x y v q r3 r5
    · cases e
theorem eqN_apart {eqm : Nat → Option FnI} {F H : Hp} {as : List Addr} {μ : Sto} {σ : L2.St} {pins : List (Addr × Obj)} {st : Shared} (hK : g.K = X.K) (sr : SR g F as μ H) (I : Inv X pins σ H st) : ∀ (n : Nat) (x y : D) (v : V), eqN eqm n x y = some false → Rep g F x v → Rep g F y v → False := by
  intro n
  induction n with
  | zero => exact fun x y v h r1 r2 => eqF_apart (by unfold eqN at h; exact h) r1 r2
  | succ n ih =>
    intro x y v h r1 r2
    unfold eqN at h
    split at h
    · rename_i heq
      cases heq
    · rename_i n' xs ys heq
      cases heq
      unfold Rep at r1 r2
      obtain ⟨a, vs, rfl, s1, r1⟩ := r1
      obtain ⟨b, us, e, s2, r2⟩ := r2
      cases e
      have e := I.tuple_inj (hK ▸ seqT_mono sr.sub s1) (hK ▸ seqT_mono sr.sub s2)
      subst e
      exact eqL_apart ih h r1 r2
    · split at h
      · obtain ⟨fi, _, _, ha⟩ := eqOwn_some h
        exact ha rfl g F v r1 r2
      · cases h
    · exact apart_objnon g F v r1 r2
    · exact apart_nonobj g F v r1 r2
    · exact eqF_apart h r1 r2
/-- a run of an own __eq__ -/
theorem own_run3 {fi : FnI} {f : Addr} {j : Nat} {sh : List (Nat × List Str)} (c : Ct g P w mg base k N sc own cm gb X W) (FC : FnC gc g P w mg base fi j f sh) (hsh : sh.contains (2, []) = true) (hps : fi.ps.length = 2) {A : Around} (room : Room j A) (gd : gc = true → A.guards = some [])
    {F : Hp} {as : List Addr} {μ : Sto} {H : Hp} {σ : L2.St} {pins : List (Addr × Obj)} {st : Shared} {x y d : D} {a b : V} {a' b' : Value} (ra : RelV a a') (rb : RelV b b') (hs : ∀ ν : Sto, fi.sem [.val x, .val y] ν = some (.ok (.val d), ν)) (sr : SR g F as μ H) (rx : Rep g F x a) (ry : Rep g F y b) (I : Inv X pins σ H st)
    (en : Env0 X.prog X.w X.K X.mg X.base A X.stack st H) :
    wpAny (model X.prog X.w) A (call (.ref f) [a', b']) (fun v s' => ∃ F' as' w H', Ext F as F' as' ∧ SR g F' as' μ H' ∧ Rep g F' d w ∧ RelV w v ∧ Inv X pins σ H' s') X.xe st := by
  obtain ⟨fd, dvs, ok, bnd, rd⟩ := FC.ok
  obtain ⟨ds, rds, hb⟩ := (bnd (2, []) (List.contains_iff_mem.mp hsh)).to
  obtain ⟨b', e1, e2⟩ := hb st [a', b'] [] (c.hK ▸ I.kIn) rfl rfl
  have eb : b' = [a', ‹Value›] := by
    match hp : fi.ps, hps with
    | [p, q], _ =>
      rw [hp] at e1
      exact (Option.some.inj e1).symm
  subst eb
  have en' : Env0 P w g.K mg base A X.stack st H := by
    have := en
    rw [c.hP, c.hw, c.hK, c.hmg, c.hb] at this
    exact this
  have ask : spOf g fi.ps.length fi.sem [a, b] H (fun w H' => ∃ F' as', Ext F as F' as' ∧ SR g F' as' μ H' ∧ Rep g F' d w) (fun _ _ _ => False) := by
    refine ⟨hps.symm, F, as, [.val x, .val y], μ, _, μ, sr, .cons rx (.cons ry .nil), hs μ, fun F' as' v H' e sr' ra => ?_⟩
    exact ⟨F', as', e, sr', ra⟩
  rw [c.hP, c.hw]
  refine wpAny_call (codeAny_mono (ok.go A X.stack st H ⟨[a', _], []⟩ [a', _] [a, b] _ _ room gd en' e2 (.cons ra (.cons rb .nil)) ask) fun r s' told => ?_)
  cases r with
  | error e =>
    obtain ⟨_, _, _, _, _, _, _, _, _, _, _, _, z⟩ := told
    exact z.elim
  | ok fl =>
    cases fl with
    | ret u =>
      have told' : CE X.stack X.prog X.w H st (fun w H' => ∃ F' as', Ext F as F' as' ∧ SR g F' as' μ H' ∧ Rep g F' d w) u s' := by
        rw [c.hP, c.hw]
        exact told
      obtain ⟨v, H', I', rv, F', as', e, sr', ra⟩ := I.after told'
      exact ⟨F', as', v, H', e, sr', ra, rv, I'⟩
    | next => exact False.elim told
    | brk => exact False.elim told
    | cont => exact False.elim told
/-- what a comparison leaves -/
def EqJ (g : G) (X : Cx) (pins : List (Addr × Obj)) (σ : L2.St) (F : Hp) (as : List Addr) (μ : Sto) (s : Shared) : Prop := ∃ F' as' H', Ext F as F' as' ∧ SR g F' as' μ H' ∧ Inv X pins σ H' s

/-- == of two tuples -/
theorem tup_rc {eq : D → D → Option Bool} {r : Nat} (hK : g.K = X.K) {pins : List (Addr × Obj)} {σ : L2.St} {μ : Sto}
    (ih : ∀ (A : Around) (room : Room r A) (fr : A.frames = X.A.frames) (gd : gc = true → A.guards = some []) (x y : D) (b : Bool) (u v : V) (u' v' : Value) (st : Shared) (F : Hp) (as : List Addr) (H : Hp),
      eq x y = some b → SR g F as μ H → Rep g F x u → Rep g F y v → RelV u u' → RelV v v' → Inv X pins σ H st → wpAny (model X.prog X.w) A (eqBool u' v') (fun r s' => r = b ∧ EqJ g X pins σ F as μ s') X.xe st)
    {A : Around} (room : Room (r + 1) A) (fr : A.frames = X.A.frames) (gd : gc = true → A.guards = some []) {xs ys : List D} {b : Bool} {a a2 : Addr} {st : Shared} {F : Hp} {as : List Addr} {H : Hp} {vs us : List V}
    (h : eqL eq xs ys = some b) (sr : SR g F as μ H) (s1 : SqT g.K F a vs) (r1 : Reps g F xs vs) (s2 : SqT g.K F a2 us) (r2 : Reps g F ys us) (I : Inv X pins σ H st) :
    wpAny (model X.prog X.w) A (richCompare .Eq (.ref a) (.ref a2)) (fun v s' => v = .bool b ∧ EqJ g X pins σ F as μ s') X.xe st := by
  obtain ⟨its, v1, t1, z1⟩ := I.tuple (hK ▸ seqT_mono sr.sub s1)
  obtain ⟨its2, v2, t2, z2⟩ := I.tuple (hK ▸ seqT_mono sr.sub s2)
  refine rc_tupJ room.units0 (fun i s' => (∃ F' as' H', Ext F as F' as' ∧ SR g F' as' μ H' ∧ Inv X pins σ H' s') ∧ eqL eq (xs.drop i) (ys.drop i) = some b) t1 t2 (fun i h1 h2 s' hI => ?_) (fun s' hI => ?_) ⟨⟨F, as, H, .refl, sr, I⟩, h⟩
  · obtain ⟨⟨F1, as1, H1, x1, sr1, I1⟩, hl⟩ := hI
    have k1 : i < its.length := by simpa using h1
    have k2 : i < its2.length := by simpa using h2
    have kx : i < xs.length := by rw [← r1.length, v1.length]; exact k1
    have ky : i < ys.length := by rw [← r2.length, v2.length]; exact k2
    obtain ⟨p, hp, rp⟩ := r1.get (List.getElem?_eq_getElem kx)
    obtain ⟨q, hq, rq⟩ := r2.get (List.getElem?_eq_getElem ky)
    obtain ⟨p', hp', rp'⟩ := v1.get hp
    obtain ⟨q', hq', rq'⟩ := v2.get hq
    have e1 : its.toArray[i] = p' := by
      rw [List.getElem?_eq_getElem k1] at hp'
      simpa using hp'
    have e2 : its2.toArray[i] = q' := by
      rw [List.getElem?_eq_getElem k2] at hq'
      simpa using hq'
    rw [e1, e2]
    rw [List.drop_eq_getElem_cons kx, List.drop_eq_getElem_cons ky] at hl
    unfold eqL at hl
    split at hl
    · rename_i hz
      refine wpAny_mono (ih A.in1 (room.in1) (by rw [← fr]) (fun e => by rw [← gd e]) _ _ true _ _ _ _ s' F1 as1 H1 hz sr1 (rp.mono x1.1) (rq.mono x1.1) rp' rq' I1) (fun r s2 z => ?_) fun _ _ z => z
      obtain ⟨hr, F2, as2, H2, x2, sr2, I2⟩ := z
      exact .inl ⟨hr, ⟨F2, as2, H2, x1.trans x2, sr2, I2⟩, hl⟩
    · rename_i hz
      cases hl
      refine wpAny_mono (ih A.in1 (room.in1) (by rw [← fr]) (fun e => by rw [← gd e]) _ _ false _ _ _ _ s' F1 as1 H1 hz sr1 (rp.mono x1.1) (rq.mono x1.1) rp' rq' I1) (fun r s2 z => ?_) fun _ _ z => z
      obtain ⟨hr, F2, as2, H2, x2, sr2, I2⟩ := z
      exact .inr ⟨hr, rfl, F2, as2, H2, x1.trans x2, sr2, I2⟩
    · cases hl
  · obtain ⟨hJ, hl⟩ := hI
    refine ⟨congrArg Value.bool ?_, hJ⟩
    have l1 : its.toArray.size = xs.length := by rw [List.size_toArray, ← v1.length, r1.length]
    have l2 : its2.toArray.size = ys.length := by rw [List.size_toArray, ← v2.length, r2.length]
    rw [l1, l2] at hl ⊢
    by_cases hx : xs.length ≤ ys.length
    · rw [List.drop_of_length_le (by omega)] at hl
      unfold eqL at hl
      cases hl
      have hd : (ys.drop (min xs.length ys.length)).isEmpty = (xs.length == ys.length) := by
        rw [Bool.eq_iff_iff, List.isEmpty_iff, List.drop_eq_nil_iff, beq_iff_eq]
        omega
      rw [hd]
    · rw [List.drop_eq_getElem_cons (i := min xs.length ys.length) (l := xs) (by omega), List.drop_of_length_le (l := ys) (by omega)] at hl
      unfold eqL at hl
      cases hl
      simp
      omega
theorem eqN_run {eqm : Nat → Option FnI} {j : Nat} (c : Ct g P w mg base k N sc own cm gb X W) (E : EqC gc g P w mg base eqm j) (En : NnC g eqm) {pins : List (Addr × Obj)} {σ : L2.St} {μ : Sto} : ∀ (n : Nat) (A : Around) (room : Room (j + n) A) (fr : A.frames = X.A.frames) (gd : gc = true → A.guards = some []) (x y : D) (b : Bool) (u v : V) (u' v' : Value) (st : Shared) (F : Hp) (as : List Addr) (H : Hp),
    eqN eqm n x y = some b → SR g F as μ H → Rep g F x u → Rep g F y v → RelV u u' → RelV v v' → Inv X pins σ H st →
    wpAny (model X.prog X.w) A (eqBool u' v') (fun r s' => r = b ∧ EqJ g X pins σ F as μ s') X.xe st := by
  have hK : g.K = X.K := c.hK.symm
  have flat : ∀ (A : Around) (x y : D) (b : Bool) (u v : V) (u' v' : Value) (st : Shared) (F : Hp) (as : List Addr) (H : Hp),
    eqF x y = some b → SR g F as μ H → Rep g F x u → Rep g F y v → RelV u u' → RelV v v' → Inv X pins σ H st →
    wpAny (model X.prog X.w) A (eqBool u' v') (fun r s' => r = b ∧ EqJ g X pins σ F as μ s') X.xe st := by
    intro A x y b u v u' v' st F as H h sr rx ry ru rv I
    unfold eqF at h
    split at h
    · rename_i p q hp hq
      cases h
      obtain ⟨e1, f1⟩ := flat_rep hp rx
      obtain ⟨e2, f2⟩ := flat_rep hq ry
      subst e1 e2
      exact eqAt_V (A := A) (s := st) ru rv f1 f2 X.prog X.w X.xe _ ⟨rfl, F, as, H, .refl, sr, I⟩
    · cases h
  intro n
  induction n with
  | zero =>
    intro A room fr gd x y b u v u' v' st F as H h
    unfold eqN at h
    exact flat A x y b u v u' v' st F as H h
  | succ n ih =>
    intro A room fr gd x y b u v u' v' st F as H h sr rx ry ru rv I
    have en0 : ∀ (A : Around) (fr : A.frames = X.A.frames) (st : Shared) (H : Hp), Inv X pins σ H st → Env0 X.prog X.w X.K X.mg X.base A X.stack st H := fun A fr st H I => by
      have e := I.env0
      exact ⟨by rw [fr]; exact e.frames, e.mod, e.bs, e.bsz, e.funs, e.frf, e.hok, e.bare⟩
    have hab := eqN_apart (eqm := eqm) hK sr I (n + 1) x y
    have h0 := h
    unfold eqN at h
    split at h
    · rename_i heq
      cases heq
    · -- tuples
      rename_i n' xs ys heq
      cases heq
      have rx0 := rx
      have ry0 := ry
      unfold Rep at rx ry
      obtain ⟨a, vs, rfl, s1, r1⟩ := rx
      obtain ⟨a2, us, rfl, s2, r2⟩ := ry
      cases ru
      cases rv
      by_cases hne : a = a2
      · subst hne
        have hb : b = true := by
          cases b with
          | true => rfl
          | false => exact (hab (.ref a) h0 rx0 ry0).elim
        subst hb
        exact PySem.SeqAt.EqAt.same (A := A) (s := st) (.ref a) X.prog X.w X.xe _ ⟨rfl, F, as, H, .refl, sr, I⟩
      · refine GQ.eqBool_refG hne ?_
        exact wpAny_mono (tup_rc hK ih (A := A) room fr gd h sr s1 r1 s2 r2 I) (fun v s' z => ⟨b, z.1, rfl, z.2⟩) fun _ _ z => z
    · -- own objects
      rename_i n' c1 fs c2 gs heq
      cases heq
      split at h
      · rename_i hc2
        obtain ⟨fi2, hfi2⟩ := Option.isSome_iff_exists.mp hc2
        obtain ⟨fi, hfi, hs, _⟩ := eqOwn_some h
        have rx0 := rx
        have ry0 := ry
        unfold Rep at rx ry
        obtain ⟨a, dx, vs, rfl, e1, l1, r1⟩ := rx
        obtain ⟨a2, dy, us, rfl, e2, l2, r2⟩ := ry
        cases ru
        cases rv
        by_cases hne : a = a2
        · subst hne
          have hb : b = true := by
            cases b with
            | true => rfl
            | false => exact (hab (.ref a) h0 rx0 ry0).elim
          subst hb
          exact PySem.SeqAt.EqAt.same (A := A) (s := st) (.ref a) X.prog X.w X.xe _ ⟨rfl, F, as, H, .refl, sr, I⟩
        · obtain ⟨f, hF, hfind, hfn, hps⟩ := E.ok c1 fi hfi
          have hnf := E.nf c1 c2 fi fi2 hfi hfi2
          obtain ⟨mA, J, _⟩ := ins_get I.hok (sr.sub _ _ e1)
          obtain ⟨mB, J', _⟩ := ins_get I.hok (sr.sub _ _ e2)
          obtain ⟨od, J, _⟩ := J.look
          obtain ⟨od', J', _⟩ := J'.look
          obtain ⟨m, hFr⟩ := I.fr
          refine GQ.eqBool_refG hne ?_
          refine PySem.W.cmp_K (op := .Eq) (tb := .ref (g.cad c2)) room.units0 hFr I.ok.mod.kin J J'.type (hK ▸ hnf) (hK ▸ hfind) (hK ▸ hfn) ?_
          refine wpAny_mono (own_run3 c hF rfl hps (room.mono (by omega)) gd (a := .ref a) (b := .ref a2) rfl rfl hs sr rx0 ry0 I (en0 A fr st H I)) (fun v s' told => ?_) fun _ _ z => z
          obtain ⟨F', as', w', H', x', sr', rw', rel, I'⟩ := told
          unfold Rep at rw'
          subst rw'
          cases (show v = Value.bool b from rel)
          exact ⟨b, rfl, rfl, F', as', H', x', sr', I'⟩
      · cases h
    · -- an own object and None
      rename_i n' c1 fs heq
      cases heq
      obtain ⟨fi, hfi, hs, _⟩ := eqOwn_some h
      have rx0 := rx
      have ry0 := ry
      unfold Rep at rx ry
      obtain ⟨a, dx, vs, rfl, e1, l1, r1⟩ := rx
      subst ry
      cases ru
      cases rv
      obtain ⟨f, hF, hfind, hfn, hps⟩ := E.ok c1 fi hfi
      obtain ⟨hnf, _⟩ := En.nn c1 fi hfi
      obtain ⟨mA, J, _⟩ := ins_get I.hok (sr.sub _ _ e1)
      obtain ⟨od, J, _⟩ := J.look
      obtain ⟨m, hFr⟩ := I.fr
      unfold eqBool
      refine wpAny_holding ?_
      refine wpAny_ite_split (fun hab => absurd (eq_of_beq hab) nofun) (fun _ => ?_)
      refine wpAny_bind (m := richCompare .Eq (.ref a) .none) ?_
      refine PySem.W.cmp_K (op := .Eq) (tb := .type "NoneType") room.units0 hFr I.ok.mod.kin J (PySem.W.Looks.of_pure (typeIs_none st)) (hK ▸ hnf) (hK ▸ hfind) (hK ▸ hfn) ?_
      refine wpAny_mono (own_run3 c hF rfl hps (room.mono (by omega)) gd (a := .ref a) (b := .non) rfl rfl hs sr rx0 ry0 I (en0 A fr st H I)) (fun v s' told => ?_) fun _ _ z => z
      obtain ⟨F', as', w', H', x', sr', rw', rel, I'⟩ := told
      unfold Rep at rw'
      subst rw'
      cases (show v = Value.bool b from rel)
      exact wpAny_truthy_bool ⟨rfl, F', as', H', x', sr', I'⟩
    · -- None and an own object
      rename_i n' c1 fs heq
      cases heq
      obtain ⟨fi, hfi, hs, _⟩ := eqOwn_some h
      have rx0 := rx
      have ry0 := ry
      unfold Rep at rx ry
      obtain ⟨a, dx, vs, rfl, e1, l1, r1⟩ := ry
      subst rx
      cases ru
      cases rv
      obtain ⟨f, hF, hfind, hfn, hps⟩ := E.ok c1 fi hfi
      obtain ⟨_, hsub⟩ := En.nn c1 fi hfi
      obtain ⟨mA, J, _⟩ := ins_get I.hok (sr.sub _ _ e1)
      obtain ⟨od, J, _⟩ := J.look
      unfold eqBool
      refine wpAny_holding ?_
      refine wpAny_ite_split (fun hab => absurd (eq_of_beq hab) nofun) (fun _ => ?_)
      refine wpAny_bind (m := richCompare .Eq .none (.ref a)) ?_
      refine none_rc room.units0 I.kIn J (hK ▸ hsub) (hK ▸ hfind) (hK ▸ hfn) ?_
      refine wpAny_mono (own_run3 c hF rfl hps (room.mono (by omega)) gd (a := .ref a) (b := .non) rfl rfl hs sr ry0 rx0 I (en0 A fr st H I)) (fun v s' told => ?_) fun _ _ z => z
      obtain ⟨F', as', w', H', x', sr', rw', rel, I'⟩ := told
      unfold Rep at rw'
      subst rw'
      cases (show v = Value.bool b from rel)
      exact wpAny_truthy_bool ⟨rfl, F', as', H', x', sr', I'⟩
    · exact flat A _ _ b u v u' v' st F as H h sr rx ry ru rv I

/-- == of lists of flat things -/
def eqVs : List V → List V → Bool
  | [], [] => true
  | u :: us, v :: vs => eqV u v && eqVs us vs
  | _, _ => false
def eqFl (xs ys : List D) : Option Bool := match flats? xs, flats? ys with
  | some us, some vs => if us.length = vs.length then some (eqVs us vs) else none
  | _, _ => none
theorem eqVs_cons {u v : V} {us vs : List V} : eqVs (u :: us) (v :: vs) = (eqV u v && eqVs us vs) := rfl
theorem eqVs_self : ∀ {us : List V}, (∀ u ∈ us, flatV u = true) → eqVs us us = true
  | [], _ => rfl
  | u :: us, h => by
    show (eqV u u && eqVs us us) = true
    rw [eqV_self (h u List.mem_cons_self), eqVs_self fun v hv => h v (List.mem_cons_of_mem _ hv)]
    rfl
theorem op_eqFl {a b : Addr} {us vs : List V} {pins : List (Addr × Obj)} {σ : L2.St} {H : Hp} {st : Shared} {Q : Value → Shared → Prop} (hu : X.A.units < cLine) (ha : H a = some (.lst us)) (hb : H b = some (.lst vs)) (fu : ∀ u ∈ us, flatV u = true) (fv : ∀ v ∈ vs, flatV v = true) (hl : us.length = vs.length) (I : Inv X pins σ H st)
    (q : Q (.bool (eqVs us vs)) st) : wpAny (model X.prog X.w) X.A (richCompare .Eq (.ref a) (.ref b)) Q X.xe st := by
  obtain ⟨z, its, n, r, e⟩ := I.hok a _ ha
  obtain ⟨z2, its2, n2, r2, e2⟩ := I.hok b _ hb
  have l1 : its.length = us.length := r.length.symm
  have l2 : its2.length = vs.length := r2.length.symm
  refine rc_listJ (N := us.length) hu (fun i s' => s' = st ∧ eqVs (us.drop i) (vs.drop i) = eqVs us vs) (fun i s' hI => ?_) (fun s' hI => ?_) ⟨rfl, by rw [List.drop_zero, List.drop_zero]⟩
  · obtain ⟨rfl, hI⟩ := hI
    refine ⟨its.toArray, its2.toArray, n, n2, e, e2, by rw [List.size_toArray, l1], by rw [List.size_toArray, l2, hl], fun h1 h2 => ?_⟩
    have k1 : i < us.length := by rw [← l1]; simpa using h1
    have k2 : i < vs.length := by omega
    obtain ⟨p, hp, rp⟩ := r.get (List.getElem?_eq_getElem k1)
    obtain ⟨p2, hp2, rp2⟩ := r2.get (List.getElem?_eq_getElem k2)
    have e1 : its.toArray[i] = p := by
      have : its[i]? = some its.toArray[i] := by
        rw [List.getElem?_eq_getElem (by simpa using h1)] <;> simp
      rw [this] at hp
      simpa using hp
    have e3 : its2.toArray[i] = p2 := by
      have : its2[i]? = some its2.toArray[i] := by
        rw [List.getElem?_eq_getElem (by simpa using h2)] <;> simp
      rw [this] at hp2
      simpa using hp2
    rw [e1, e3]
    rw [List.drop_eq_getElem_cons k1, List.drop_eq_getElem_cons k2] at hI
    rw [eqVs_cons] at hI
    refine eqAt_V (A := X.A.in1) (s := s') rp rp2 (fu _ (List.getElem_mem k1)) (fv _ (List.getElem_mem k2)) X.prog X.w X.xe _ ?_
    cases hq : eqV us[i] vs[i] with
    | true =>
      rw [hq, Bool.true_and] at hI
      exact .inl ⟨rfl, rfl, hI⟩
    | false =>
      rw [hq, Bool.false_and] at hI
      refine .inr ⟨rfl, ⟨rfl, ?_⟩, ?_⟩
      · rw [List.drop_eq_getElem_cons k1, List.drop_eq_getElem_cons k2]
        rw [eqVs_cons, hq, Bool.false_and]
        exact hI
      · rw [hI]
        exact q
  · obtain ⟨rfl, hI⟩ := hI
    rw [List.drop_of_length_le (Nat.le_refl _), List.drop_of_length_le (by omega)] at hI
    rw [show true = eqVs us vs from hI]
    exact q
noncomputable def dEqT (eqm : Nat → Option FnI) (n : Nat) : D → D → Option S
  | .tup xs, .tup ys => (match dEq (.tup xs) (.tup ys) with
    | some s => some s
    | none => (eqL (eqN eqm n) xs ys).map fun b => .val (.bl b))
  | .lst xs, .lst ys => (match dEq (.lst xs) (.lst ys) with
    | some s => some s
    | none => (eqFl xs ys).map fun b => .val (.bl b))
  | .obj c fs, .non => (eqOwn eqm c (.obj c fs) .non).map fun b => .val (.bl b)
  | .non, .obj c fs => (eqOwn eqm c (.obj c fs) .non).map fun b => .val (.bl b)
  | x, y => dEqO eqm x y
theorem vr_rep {F H : Hp} {d : D} {v : V} (hd : ∀ ds, d ≠ .lst ds) (h : VR g F H d v) : Rep g F d v := by
  rcases h with ⟨ds, _, _, q, _⟩ | h
  · exact (hd ds q).elim
  · exact h
theorem Ct.eqT {eqm : Nat → Option FnI} {j n : Nat} (c : Ct g P w mg base k N sc own true gb X W) (E : EqC gc g P w mg base eqm j) (En : NnC g eqm) (hgd : leB gc gb = true) (hj : Nat.ble (j + n + 1) k = true) : OpOk g X (compareOp .Eq) (dEqT eqm n) := by
  intro x y s F as μ H v u Q e sr hx hy kk
  have hK : g.K = X.K := c.hK.symm
  have room : Room (j + n + 1) X.A := (c.room rfl).mono (Nat.le_of_ble_eq_true hj)
  have gd : gc = true → X.A.guards = some [] := fun e => c.gd (leB_ok hgd e)
  have he : Nat.ble j k = true := Nat.ble_eq_true_of_le (by have := Nat.le_of_ble_eq_true hj; omega)
  unfold dEqT at e
  split at e
  · rename_i xs ys
    split at e
    · rename_i z hz
      cases e
      exact ok_eq c.K c.hu64 _ _ _ F as μ H v u Q hz sr hx hy kk
    · obtain ⟨b, hb, rfl⟩ := Option.map_eq_some_iff.mp e
      have rx := vr_rep (fun ds q => by cases q) hx
      have ry := vr_rep (fun ds q => by cases q) hy
      unfold Rep at rx ry
      obtain ⟨a, vs, rfl, s1, r1⟩ := rx
      obtain ⟨a2, us, rfl, s2, r2⟩ := ry
      intro pins st σ v' u' I rv ru
      cases (show v' = Value.ref a from rv)
      cases (show u' = Value.ref a2 from ru)
      show wpAny (model X.prog X.w) X.A (richCompare .Eq (.ref a) (.ref a2)) (EP X pins σ Q) X.xe st
      refine wpAny_mono (tup_rc (gc := gc) hK (fun A rm fr gd x y b u v u' v' st F as H => eqN_run c E En n A rm fr gd x y b u v u' v' st F as H) (A := X.A) room rfl gd hb sr s1 r1 s2 r2 I) (fun v s' z => ?_) fun _ _ z => z
      obtain ⟨rfl, F', as', H', x', sr', I'⟩ := z
      exact ⟨.bl b, H', I', rfl, kk F' as' _ H' x' sr' ra_bl⟩
  · rename_i xs ys
    split at e
    · rename_i z hz
      cases e
      exact ok_eq c.K c.hu64 _ _ _ F as μ H v u Q hz sr hx hy kk
    · obtain ⟨b, hb, rfl⟩ := Option.map_eq_some_iff.mp e
      obtain ⟨a, vs, rfl, q1, r1⟩ := vr_lst sr hx
      obtain ⟨a2, us, rfl, q2, r2⟩ := vr_lst sr hy
      unfold eqFl at hb
      split at hb
      · rename_i p p2 h1 h2
        split at hb
        · rename_i hl
          cases hb
          obtain ⟨e1, f1⟩ := flats_reps h1 r1
          obtain ⟨e2, f2⟩ := flats_reps h2 r2
          subst e1 e2
          intro pins st σ v' u' I rv ru
          cases (show v' = Value.ref a from rv)
          cases (show u' = Value.ref a2 from ru)
          show wpAny (model X.prog X.w) X.A (richCompare .Eq (.ref a) (.ref a2)) (EP X pins σ Q) X.xe st
          exact op_eqFl room.units0 q1 q2 (List.all_eq_true.mp f1) (List.all_eq_true.mp f2) hl I ⟨.bl _, H, I, rfl, kk F as _ H .refl sr ra_bl⟩
        · cases hb
      · cases hb
  · rename_i c1 fs
    obtain ⟨b, hb, rfl⟩ := Option.map_eq_some_iff.mp e
    obtain ⟨fi, hfi, hs, _⟩ := eqOwn_some hb
    have rx := vr_rep (fun ds q => by cases q) hx
    have ry := vr_rep (fun ds q => by cases q) hy
    have rx0 := rx
    have ry0 := ry
    unfold Rep at rx ry
    obtain ⟨a, dx, vs, rfl, e1, l1, r1⟩ := rx
    subst ry
    intro pins st σ v' u' I rv ru
    cases (show v' = Value.ref a from rv)
    cases (show u' = Value.none from ru)
    obtain ⟨f, hF, hfind, hfn, hps⟩ := E.ok c1 fi hfi
    obtain ⟨hnf, _⟩ := En.nn c1 fi hfi
    obtain ⟨mA, J, _⟩ := ins_get I.hok (sr.sub _ _ e1)
    obtain ⟨od, J, _⟩ := J.look
    obtain ⟨m, hFr⟩ := I.fr
    show wpAny (model X.prog X.w) X.A (richCompare .Eq (.ref a) .none) (EP X pins σ Q) X.xe st
    refine PySem.W.cmp_K (op := .Eq) (tb := .type "NoneType") room.units0 hFr I.ok.mod.kin J (PySem.W.Looks.of_pure (typeIs_none st)) (hK ▸ hnf) (hK ▸ hfind) (hK ▸ hfn) ?_
    refine wpAny_mono (own_run3 c hF rfl hps (room.mono (by omega)) gd (a := .ref a) (b := .non) rfl rfl hs sr rx0 ry0 I I.env0) (fun v s' told => ?_) fun _ _ z => z
    obtain ⟨F', as', w', H', x', sr', rw', rel, I'⟩ := told
    unfold Rep at rw'
    subst rw'
    cases (show v = Value.bool b from rel)
    exact ⟨.bl b, H', I', rfl, kk F' as' _ H' x' sr' ra_bl⟩
  · rename_i c1 fs
    obtain ⟨b, hb, rfl⟩ := Option.map_eq_some_iff.mp e
    obtain ⟨fi, hfi, hs, _⟩ := eqOwn_some hb
    have rx := vr_rep (fun ds q => by cases q) hx
    have ry := vr_rep (fun ds q => by cases q) hy
    have rx0 := rx
    have ry0 := ry
    unfold Rep at rx ry
    obtain ⟨a, dx, vs, rfl, e1, l1, r1⟩ := ry
    subst rx
    intro pins st σ v' u' I rv ru
    cases (show v' = Value.none from rv)
    cases (show u' = Value.ref a from ru)
    obtain ⟨f, hF, hfind, hfn, hps⟩ := E.ok c1 fi hfi
    obtain ⟨_, hsub⟩ := En.nn c1 fi hfi
    obtain ⟨mA, J, _⟩ := ins_get I.hok (sr.sub _ _ e1)
    obtain ⟨od, J, _⟩ := J.look
    show wpAny (model X.prog X.w) X.A (richCompare .Eq .none (.ref a)) (EP X pins σ Q) X.xe st
    refine none_rc room.units0 I.kIn J (hK ▸ hsub) (hK ▸ hfind) (hK ▸ hfn) ?_
    refine wpAny_mono (own_run3 c hF rfl hps (room.mono (by omega)) gd (a := .ref a) (b := .non) rfl rfl hs sr ry0 rx0 I I.env0) (fun v s' told => ?_) fun _ _ z => z
    obtain ⟨F', as', w', H', x', sr', rw', rel, I'⟩ := told
    unfold Rep at rw'
    subst rw'
    cases (show v = Value.bool b from rel)
    exact ⟨.bl b, H', I', rfl, kk F' as' _ H' x' sr' ra_bl⟩
  · exact Ct.eqo c E hgd he _ _ s F as μ H v u Q e sr hx hy kk

noncomputable def dNeT (eqm : Nat → Option FnI) : D → D → Option S
  | .obj c fs, .non => (eqOwn eqm c (.obj c fs) .non).map fun b => .val (.bl (!b))
  | .non, .obj c fs => (eqOwn eqm c (.obj c fs) .non).map fun b => .val (.bl (!b))
  | x, y => dNeO eqm x y
theorem Ct.neT {eqm : Nat → Option FnI} {j : Nat} (c : Ct g P w mg base k N sc own true gb X W) (E : EqC gc g P w mg base eqm j) (Ee : NeC g eqm) (En : NnC g eqm) (hgd : leB gc gb = true) (hj : Nat.ble (j + 1) k = true) : OpOk g X (compareOp .NotEq) (dNeT eqm) := by
  intro x y s F as μ H v u Q e sr hx hy kk
  have hK : g.K = X.K := c.hK.symm
  have room : Room (j + 1) X.A := (c.room rfl).mono (Nat.le_of_ble_eq_true hj)
  have gd : gc = true → X.A.guards = some [] := fun e => c.gd (leB_ok hgd e)
  unfold dNeT at e
  split at e
  · rename_i c1 fs
    obtain ⟨b, hb, rfl⟩ := Option.map_eq_some_iff.mp e
    obtain ⟨fi, hfi, hs, _⟩ := eqOwn_some hb
    have rx := vr_rep (fun ds q => by cases q) hx
    have ry := vr_rep (fun ds q => by cases q) hy
    have rx0 := rx
    have ry0 := ry
    unfold Rep at rx ry
    obtain ⟨a, dx, vs, rfl, e1, l1, r1⟩ := rx
    subst ry
    intro pins st σ v' u' I rv ru
    cases (show v' = Value.ref a from rv)
    cases (show u' = Value.none from ru)
    obtain ⟨f, hF, hfind, hfn, hps⟩ := E.ok c1 fi hfi
    obtain ⟨hne, hm⟩ := Ee.ne c1 fi hfi
    obtain ⟨hnf, _⟩ := En.nn c1 fi hfi
    obtain ⟨mA, J, _⟩ := ins_get I.hok (sr.sub _ _ e1)
    obtain ⟨od, J, _⟩ := J.look
    obtain ⟨m, hFr⟩ := I.fr
    show wpAny (model X.prog X.w) X.A (richCompare .NotEq (.ref a) .none) (EP X pins σ Q) X.xe st
    refine ne_K (tb := .type "NoneType") room.units0 (by have := room.in1.un; omega) hFr I.ok.mod.kin J (PySem.W.Looks.of_pure (typeIs_none st)) (hK ▸ hnf) (hK ▸ hne) (hK ▸ hm) (hK ▸ hfind) (hK ▸ hfn) ?_
    refine wpAny_mono (own_run3 c hF rfl hps room.in1 (fun e => gd e) (a := .ref a) (b := .non) rfl rfl hs sr rx0 ry0 I I.env0.in1) (fun v s' told => ?_) fun _ _ z => z
    obtain ⟨F', as', w', H', x', sr', rw', rel, I'⟩ := told
    unfold Rep at rw'
    subst rw'
    cases (show v = Value.bool b from rel)
    exact ⟨b, rfl, .bl (!b), H', I', rfl, kk F' as' _ H' x' sr' ra_bl⟩
  · rename_i c1 fs
    obtain ⟨b, hb, rfl⟩ := Option.map_eq_some_iff.mp e
    obtain ⟨fi, hfi, hs, _⟩ := eqOwn_some hb
    have rx := vr_rep (fun ds q => by cases q) hx
    have ry := vr_rep (fun ds q => by cases q) hy
    have rx0 := rx
    have ry0 := ry
    unfold Rep at rx ry
    obtain ⟨a, dx, vs, rfl, e1, l1, r1⟩ := ry
    subst rx
    intro pins st σ v' u' I rv ru
    cases (show v' = Value.none from rv)
    cases (show u' = Value.ref a from ru)
    obtain ⟨f, hF, hfind, hfn, hps⟩ := E.ok c1 fi hfi
    obtain ⟨hne, hm⟩ := Ee.ne c1 fi hfi
    obtain ⟨_, hsub⟩ := En.nn c1 fi hfi
    obtain ⟨mA, J, _⟩ := ins_get I.hok (sr.sub _ _ e1)
    obtain ⟨od, J, _⟩ := J.look
    show wpAny (model X.prog X.w) X.A (richCompare .NotEq .none (.ref a)) (EP X pins σ Q) X.xe st
    refine none_ne room.units0 (by have := room.in1.un; omega) I.kIn J (hK ▸ hsub) (hK ▸ hne) (hK ▸ hm) (hK ▸ hfind) (hK ▸ hfn) ?_
    refine wpAny_mono (own_run3 c hF rfl hps room.in1 (fun e => gd e) (a := .ref a) (b := .non) rfl rfl hs sr ry0 rx0 I I.env0.in1) (fun v s' told => ?_) fun _ _ z => z
    obtain ⟨F', as', w', H', x', sr', rw', rel, I'⟩ := told
    unfold Rep at rw'
    subst rw'
    cases (show v = Value.bool b from rel)
    exact ⟨b, rfl, .bl (!b), H', I', rfl, kk F' as' _ H' x' sr' ra_bl⟩
  · exact Ct.neo c E Ee hgd hj _ _ s F as μ H v u Q e sr hx hy kk
end
end Sz

set_option Elab.async false
set_option linter.all false
set_option maxRecDepth 100000
set_option maxHeartbeats 4000000
/-! Sz Z6: methods of texts with one argument. -/
namespace Sz
open PySem PySem.Spec PyProof.Rows L2
def sm1K (op : D → D → Option S) (b : ME) (ρ : En) (μ : Sto) : S → Option R
  | .val (.str z) => andThen (b ρ μ) fun s2 μ2 => fin2 op μ2 (.val (.str z)) s2
  | _ => none
/-- x.f(y) of a text x -/
def mSm1 (op : D → D → Option S) (a b : ME) : ME := fun ρ μ => andThen (a ρ μ) fun s1 μ1 => sm1K op b ρ μ1 s1
/-- the rule r holds for what the code says -/
def SmOk (g : G) (X : Cx) (r : V → List V → Hp → VK → Prop) (op : D → D → Option S) : Prop :=
  ∀ (z : Str) (y : D) (s : S) (F : Hp) (as : List Addr) (μ : Sto) (H : Hp) (u : V) (Q : VK), op (.str z) y = some s → SR g F as μ H → VR g F H y u →
    (∀ F' as' w H', Ext F as F' as' → SR g F' as' μ H' → RA g F' as' H' s w → Q w H') → r (.str z) [u] H Q
section
variable {g : G} {X : Cx} {W : WX} {a b : Expr} {ma mb : ME} {dop : D → D → Option S} {pos apos : Pos}
theorem se_sm1 {id : String} {name : Str} {r : V → List V → Hp → VK → Prop} (slot : Slot "str" name id) (ty : typeOf (.builtin id) = pure (.type "method_descriptor")) (rule : MtR X id r) (ok : SmOk g X r dop) (ha : SE g X W a ma) (hb : SE g X W b mb)
    (hs : starEach [b] X.env = [(false, eval b X.env)] := by rfl) (hbase : attributeBase a name X.env (eval a X.env) = eval a X.env := by rfl) (hline : (apos.endLine == pos.line) = true := by rfl) :
    SE g X W (.Call (.Attribute a name apos) [b] [] pos) (mSm1 dop ma mb) := by
  refine ⟨fun F as ρ μ σ H Q r' μ' h sr er post => wE (pe_m1 slot ty rule pe_wp pe_wp hs hbase hline) ?_⟩
  refine ha.then_ (show andThen _ _ = some (r', μ') from h) sr er (fun x e => by subst e; exact post) fun s1 μ1 F1 as1 v1 H1 h1 x1 sr1 er1 ra1 => ?_
  unfold sm1K at h1
  split at h1
  · rename_i z
    have e1 : Rep g F1 (.str z) v1 := ra1
    unfold Rep at e1
    subst e1
    refine ⟨⟨z, rfl⟩, ?_⟩
    refine hb.then_ h1 sr1 er1 (fun x e => by subst e; exact PErr.ext x1 post) fun s2 μ2 F2 as2 v2 H2 h2 x2 sr2 er2 ra2 => ?_
    obtain ⟨x, y, s, e1, e2, e3, e4, e5⟩ := fin2_some h2
    subst e4 e5
    cases e1
    exact ok z y s F2 as2 μ' H2 v2 Q e3 sr2 (view_ra sr2 ra2 e2) fun F' as' w H' e' r' q => post F' as' w H' (x1.trans (x2.trans e')) r' q
  · cases h1
/-! ### join -/
def strs? : List D → Option (List Str)
  | [] => some []
  | .str z :: ds => (match strs? ds with
    | some zs => some (z :: zs)
    | none => none)
  | _ :: _ => none
theorem strsD_rep {F : Hp} : ∀ {ds : List D} {zs : List Str} {vs : List V}, strs? ds = some zs → Reps g F ds vs → vs = zs.map V.str
  | [], zs, vs, h, r => by
    cases h
    exact Reps.nil_iff.mp r
  | .str z :: ds, zs, vs, h, r => by
    unfold strs? at h
    split at h
    · rename_i zs' hz
      cases h
      obtain ⟨v, r', rfl, h2, h3⟩ := Reps.cons_iff.mp r
      unfold Rep at h2
      rw [h2, strsD_rep hz h3]
      rfl
    · cases h
  | .non :: _, _, _, h, _ => by cases h
  | .bl _ :: _, _, _, h, _ => by cases h
  | .int _ :: _, _, _, h, _ => by cases h
  | .ty _ :: _, _, _, h, _ => by cases h
  | .tup _ :: _, _, _, h, _ => by cases h
  | .lst _ :: _, _, _, h, _ => by cases h
  | .obj _ _ :: _, _, _, h, _ => by cases h
  | .fn _ :: _, _, _, h, _ => by cases h
  | .cls _ :: _, _, _, h, _ => by cases h
  | .scr _ :: _, _, _, h, _ => by cases h
  | .dic _ _ :: _, _, _, h, _ => by cases h
  | .exc _ _ :: _, _, _, h, _ => by cases h
theorem strs_map : ∀ {zs : List Str}, strs? (zs.map D.str) = some zs
  | [] => rfl
  | z :: zs => by
    rw [List.map_cons]
    unfold strs?
    rw [strs_map]
def joinK (a : Str) (ys : List Str) : Option S := if (ys.map (·.length)).sum + ys.length * a.length ≤ 16777216 then some (.val (.str (Txt.join a ys))) else none
def dJoin : D → D → Option S
  | .str a, .lst ds => (match strs? ds with
    | some ys => joinK a ys
    | none => none)
  | .str a, .tup ds => (match strs? ds with
    | some ys => joinK a ys
    | none => none)
  | _, _ => none
theorem sm_join (hK : g.K = X.K) : SmOk g X (fun x xs H Q => ∃ a p, ∃ ys : List Str, x = .str a ∧ xs = [.ref p] ∧ (SqL X.K H p (ys.map V.str) ∨ SqT X.K H p (ys.map V.str)) ∧
    (ys.map (·.length)).sum + ys.length * a.length ≤ 16777216 ∧ Q (.str (Txt.join a ys)) H) dJoin := by
  intro z y s F as μ H u Q e sr hy k
  unfold dJoin at e
  split at e
  · rename_i a ds h1
    cases h1
    split at e
    · rename_i ys hys
      unfold joinK at e
      split at e
      · rename_i hz
        cases e
        obtain ⟨p, vs, rfl, q1, r1⟩ := vr_lst sr hy
        have e1 := strsD_rep hys r1
        subst e1
        exact ⟨_, p, ys, rfl, rfl, .inl (SqL.of q1), hz, k F as _ H .refl sr (show Rep g F (.str _) _ by unfold Rep; rfl)⟩
      · cases e
    · cases e
  · rename_i a ds h1
    cases h1
    split at e
    · rename_i ys hys
      unfold joinK at e
      split at e
      · rename_i hz
        cases e
        obtain ⟨p, vs, rfl, q1, r1⟩ := vr_tup sr hy
        have e1 := strsD_rep hys r1
        subst e1
        exact ⟨_, p, ys, rfl, rfl, .inr (hK ▸ q1), hz, k F as _ H .refl sr (show Rep g F (.str _) _ by unfold Rep; rfl)⟩
      · cases e
    · cases e
  · cases e
/-! ### split, partition, count -/
def dSplit : D → D → Option S
  | .str a, .str b => if (b.length == 0) = false ∧ a.length + 2 ≤ sizeLine then some (.fr ((Txt.split a b).map D.str)) else none
  | _, _ => none
theorem reps_strs {F : Hp} : ∀ {zs : List Str}, Reps g F (zs.map D.str) (zs.map V.str)
  | [] => Reps.nil
  | z :: zs => by
    rw [List.map_cons, List.map_cons]
    exact Reps.cons (by unfold Rep; rfl) reps_strs
theorem sm_split : SmOk g X (fun x xs H Q => ∃ a b, x = .str a ∧ xs = [.str b] ∧ (b.length == 0) = false ∧ a.length + 2 ≤ sizeLine ∧ rNewStrs (Txt.split a b) H Q) dSplit := by
  intro z y s F as μ H u Q e sr hy k
  unfold dSplit at e
  split at e
  · rename_i a b h1
    cases h1
    split at e
    · rename_i hz
      cases e
      cases vr_str hy
      refine ⟨_, b, rfl, rfl, hz.1, hz.2, fun p hp => ?_⟩
      obtain ⟨sr4, f4, n4⟩ := sr.loose (o := .lst ((Txt.split z b).map V.str)) hp
      exact k F as (.ref p) _ .refl sr4 (ra_lst upd_same f4 n4 reps_strs)
    · cases e
  · cases e
def dPart : D → D → Option S
  | .str a, .str b => if (b.length == 0) = false ∧ a.length ≤ sizeLine then some (.val (.tup [.str (Txt.partition a b).1, .str (Txt.partition a b).2.1, .str (Txt.partition a b).2.2])) else none
  | _, _ => none
theorem sm_part : SmOk g X (fun x xs H Q => ∃ a b, x = .str a ∧ xs = [.str b] ∧ (b.length == 0) = false ∧ a.length ≤ sizeLine ∧
      ∀ p, H p = none → Q (.ref p) (upd H p (.tup [.str (Txt.partition a b).1, .str (Txt.partition a b).2.1, .str (Txt.partition a b).2.2]))) dPart := by
  intro z y s F as μ H u Q e sr hy k
  unfold dPart at e
  split at e
  · rename_i a b h1
    cases h1
    split at e
    · rename_i hz
      cases e
      cases vr_str hy
      refine ⟨_, b, rfl, rfl, hz.1, hz.2, fun p hp => ?_⟩
      obtain ⟨sr4, x4, e4⟩ := sr.frozen (o := .tup [.str (Txt.partition z b).1, .str (Txt.partition z b).2.1, .str (Txt.partition z b).2.2]) hp
      refine k _ as (.ref p) _ x4 sr4 (show Rep g _ (.tup _) (.ref p) from ?_)
      unfold Rep
      exact ⟨p, _, rfl, SqT.of e4, Reps.cons (by unfold Rep; rfl) (Reps.cons (by unfold Rep; rfl) (Reps.cons (by unfold Rep; rfl) Reps.nil))⟩
    · cases e
  · cases e
def dCount : D → D → Option S
  | .str a, .str b => some (.val (.int (Txt.count a b)))
  | _, _ => none
theorem sm_count : SmOk g X (fun x xs H Q => ∃ a b, x = .str a ∧ xs = [.str b] ∧ Q (.int (Txt.count a b)) H) dCount := by
  intro z y s F as μ H u Q e sr hy k
  unfold dCount at e
  split at e
  · rename_i a b h1
    cases h1
    cases e
    cases vr_str hy
    exact ⟨_, b, rfl, rfl, k F as _ H .refl sr (show Rep g F (.int _) _ by unfold Rep; rfl)⟩
  · cases e
end
theorem mSm1_ap {op : D → D → Option S} {a b : ME} {ρ : En} {μ : Sto} : mSm1 op a b ρ μ = andThen (a ρ μ) fun s1 μ1 => sm1K op b ρ μ1 s1 := rfl
theorem sm1K_str {op : D → D → Option S} {b : ME} {ρ : En} {μ : Sto} {z : Str} : sm1K op b ρ μ (.val (.str z)) = andThen (b ρ μ) fun s2 μ2 => fin2 op μ2 (.val (.str z)) s2 := Eq.trans rfl rfl
theorem join_some {a : Str} {ys : List Str} (h : (ys.map (·.length)).sum + ys.length * a.length ≤ 16777216) : dJoin (.str a) (.lst (ys.map D.str)) = some (.val (.str (Txt.join a ys))) := by
  show (match strs? (ys.map D.str) with
    | some ys => joinK a ys
    | none => none) = _
  rw [strs_map]
  exact if_pos h
end Sz

set_option Elab.async false
set_option linter.all false
set_option maxRecDepth 100000
set_option maxHeartbeats 4000000
/-! Sz Z7: for i in reversed(range(n)). -/
namespace Sz
open PySem PySem.Spec PyProof.Rows L2
def iRevR1 (a : ME) : MI := fun ρ μ => andThen (a ρ μ) fun s μ1 => match vw μ1 s with
  | some (.int j) => if inR j then some (.ok (rangeS (0 + (((j - 0).toNat : Nat) : Int) - 1) (-1) (j - 0).toNat), μ1) else none
  | _ => none
section
variable {g : G} {X : Cx} {W : WX} {tg a : Expr} {ma : ME} {p p2 pos pos2 : Pos}
theorem si_revR1 (hg : Gl X "reversed") (hm : X.mg "reversed" = none) (hg2 : Gl X "range") (hm2 : X.mg "range" = none) (hn : notStar a = true) (ha : SE g X W a ma) :
    SI g X W tg (.Call (.Name "reversed" p) [.Call (.Name "range" p2) [a] [] pos2] [] pos) (iRevR1 ma) := by
  refine ⟨fun F as ρ μ σ H R r μ' h sr er post => wI (pi_revR hg hm (prg_1 hg2 hm2 pe_wp (starEach_cons hn))) ?_⟩
  refine ha.then_ (show andThen _ _ = some (r, μ') from h) sr er (fun x e => by subst e; exact post) fun s μ1 F1 as1 v H1 h1 x1 sr1 er1 ra1 => ?_
  split at h1
  · rename_i j hv
    split at h1
    · rename_i hz
      cases h1
      cases vr_int (view_ra sr1 ra1 hv)
      unfold inR at hz
      rw [Bool.and_eq_true, decide_eq_true_eq, decide_eq_true_eq] at hz
      exact ⟨j, rfl, by decide, by decide, hz.1, hz.2, post F1 as1 H1 _ x1 sr1 jok_rangeS⟩
    · cases h1
  · cases h1
end
theorem iRevR1_to {a : ME} {ρ : En} {μ μ1 : Sto} {n : Nat} (h : a ρ μ = some (.ok (.val (.int (n : Int))), μ1)) (hn : n < 2 ^ 61) : iRevR1 a ρ μ = some (.ok ((List.range n).reverse.map fun i : Nat => .int (i : Int)), μ1) := by
  unfold iRevR1
  rw [h, andThen_ok]
  show (if inR (n : Int) then _ else _) = _
  rw [if_pos (inR_of (by omega))]
  congr 3
  rw [Int.sub_zero, Int.toNat_natCast]
  unfold rangeS
  apply List.ext_getElem
  · simp
  · intro i h1 h2
    simp
    simp at h1
    omega
end Sz

set_option Elab.async false
set_option linter.all false
set_option maxRecDepth 100000
set_option maxHeartbeats 4000000
/-! Sz Z8: a comprehension over a list that stands in a cell and is changed later. -/
namespace Sz
open PySem PySem.Spec L2
open Classical in
noncomputable def cloopV (j : Nat) (all : List D) (t : MG) (c : MT) (el : ME) (ρ : En) (k : Nat) : List D → Sto → Option Sto
  | [], μ => if μ[j]? = some (.lst all) then some μ else none
  | d :: ds, μ => if μ[j]? = some (.lst all) then (match t (.val d) ρ μ with
    | none => none
    | some (ρ1, μ1) => match c ρ1 μ1 with
      | some (.ok true, μ2) => (match el ρ1 μ2 with
        | some (.ok s, μ3) => (match cput k s μ3 with
          | some μ4 => cloopV j all t c el ρ k ds μ4
          | none => none)
        | _ => none)
      | some (.ok false, μ2) => cloopV j all t c el ρ k ds μ2
      | _ => none) else none
theorem cloopV_held {j : Nat} {all : List D} {t : MG} {c : MT} {el : ME} {ρ : En} {k : Nat} {ds : List D} {μ μf : Sto} (h : cloopV j all t c el ρ k ds μ = some μf) : μ[j]? = some (.lst all) := by
  cases ds with
  | nil =>
    unfold cloopV at h
    split at h
    · assumption
    · cases h
  | cons d ds =>
    unfold cloopV at h
    split at h
    · assumption
    · cases h
noncomputable def cvK (t : MG) (c : MT) (el : ME) (ρ : En) (own : List Nat) (μ : Sto) : S → Option R
  | .cell j => (match μ[j]? with
    | some (.lst ds) => finC μ.length (cloopV j ds t c el (wipeE ρ own) μ.length ds (μ ++ [.lst []]))
    | _ => none)
  | _ => none
noncomputable def mCompV (m : ME) (t : MG) (c : MT) (el : ME) (own : List Nat) : ME := fun ρ μ => andThen (m ρ μ) fun s μ1 => cvK t c el ρ own μ1 s
theorem jokV {g : G} {F H : Hp} {as : List Addr} {μ : Sto} {a : Addr} {xs : List V} {ds : List D} (sr : SR g F as μ H) (h : H a = some (.lst xs)) (r : Reps g F ds xs) (i : Nat) : (i = ds.length → (Itl g.K a).stop i H) ∧
    ∀ d, ds[i]? = some d → (Itl g.K a).go i H ∧ ∀ x H', (Itl g.K a).yld i H x H' → ∃ F', Ext F as F' as ∧ SR g F' as μ H' ∧ Rep g F' d x := by
  have hs : SqL g.K H a xs := SqL.of h
  refine ⟨fun hi => ⟨xs, hs, by rw [r.length, hi]; exact Nat.le_refl _⟩, fun d hd => ?_⟩
  obtain ⟨v, h1, h2⟩ := r.get hd
  refine ⟨⟨xs, v, hs, h1⟩, fun x H' ⟨e1, e2⟩ => ?_⟩
  subst e1
  have := e2 xs hs
  rw [h1] at this
  cases this
  exact ⟨F, .refl, sr, h2⟩
section
variable {g : G} {X : Cx} {W : WX} {tg iter elt : Expr} {ifs : List Expr} {scope : Scope} {m : ME} {t : MG} {c : MT} {el : ME} {pos : Pos} {ow : List (Str × Nat)} {sl : List Nat}
theorem wpI_cell {F : Hp} {as : List Addr} {ρ : En} {μ μ1 : Sto} {σ : L2.St} {H : Hp} {R : It → Hp → Prop} {j : Nat} {ds : List D} (hg : g.K = X.K) (he : SE g X W iter m) (h : m ρ μ = some (.ok (.cell j), μ1)) (hk : μ1[j]? = some (.lst ds)) (sr : SR g F as μ H) (er : ER g F as ρ σ)
    (fin : ∀ F1 as1 H1 a, Ext F as F1 as1 → SR g F1 as1 μ1 H1 → as1[j]? = some a → R (Itl g.K a) H1) : wpI X tg iter σ H R := by
  intro pins s I
  have key : wpE X iter σ H fun x H1 => ∀ (s1 : Shared) (v : Value), Inv X pins σ H1 s1 → RelV x v → wpAny (model X.prog X.w) X.A (pyIter v) (PIE X pins σ tg R) X.xe s1 := by
    refine he.run F as ρ μ σ H _ (.ok (.cell j)) μ1 h sr er fun F1 as1 v H1 x1 sr1 ra1 => ?_
    obtain ⟨a, h1, h2⟩ := (show ∃ a, as1[j]? = some a ∧ v = .ref a from ra1)
    subst h2
    obtain ⟨f0, vs, h3, h4⟩ := sr1.cells j a _ h1 hk
    intro st u I1 ru
    cases ru
    exact iter_list I1 (SqL.of h3) (by rw [← hg]; exact fin F1 as1 H1 a x1 sr1 h1)
  exact thn (key pins s I) fun v s1 ⟨x, H1, I1, rx, q⟩ => q s1 v I1 rx
theorem comp_runV (hgK : g.K = X.K) {F : Hp} {as : List Addr} {ρ : En} {μ : Sto} {σ : L2.St} {H : Hp} {Q : VK} {r : Except Ex S} {μ' : Sto} (hi : SE g X W iter m) (hg : ∀ s H C cl fp, SG g (blkX X scope s H C cl fp) tg sl t) (hsl : ∀ i ∈ sl, i ∈ ow.map (·.2))
    (ht : STs g X scope ifs c) (he : ∀ s H C cl fp, SE g (blkX X scope s H C cl fp) W0 elt el) (h : mCompV m t c el (ow.map (·.2)) ρ μ = some (r, μ')) (sr : SR g F as μ H) (er : ER g F as ρ σ) (post : PostE g W F as σ Q r μ') :
    tLc (wpI X tg iter) (fun v σ H Q => ∀ s H' C cl fp, wpG (blkX X scope s H' C cl fp) tg v σ H Q) (ttOf X scope ifs)
      (fun σ H Q => ∀ s H' C cl fp, wpE (blkX X scope s H' C cl fp) elt σ H Q) (ow.map (·.2)) σ H Q := by
  rcases andThen_some (show andThen _ _ = some (r, μ') from h) with ⟨x, h1, h2⟩ | ⟨s0, μ1, h1, h2⟩
  · dsimp only at h1 h2
    subst h2
    intro pins s I
    exact thn (hi.run F as ρ μ σ H (fun x H1 => ∀ (s1 : Shared) (v : Value), Inv X pins σ H1 s1 → RelV x v → wpAny (model X.prog X.w) X.A (pyIter v) (PIE X pins σ tg _) X.xe s1) (.error x) μ' h1 sr er post pins s I) fun v s1 ⟨x, H1, I1, rx, q⟩ => q s1 v I1 rx
  unfold cvK at h2
  split at h2
  case h_2 => cases h2
  rename_i j
  split at h2
  case h_2 => cases h2
  rename_i ds hds
  refine wpI_cell hgK hi h1 hds sr er fun F1 as1 H1 a x1 sr1 ha1 => ?_
  intro Dl hD
  have er1 := (er.mono x1).wipe (ow.map (·.2))
  cases hq : cloopV j ds t c el (wipeE ρ (ow.map (·.2))) μ1.length ds (μ1 ++ [.lst []]) with
  | none => rw [hq] at h2; cases h2
  | some μf =>
    rw [hq] at h2
    obtain ⟨sr2, f2, n2⟩ := sr1.loose (o := .lst []) hD
    obtain ⟨sr3, x3⟩ := sr2.push (c := .lst []) upd_same n2 ⟨f2, [], upd_same, Reps.nil⟩
    have hk0 : (as1 ++ [Dl])[μ1.length]? = some Dl := by rw [← sr1.len, List.getElem?_append_right (Nat.le_refl _), Nat.sub_self]; rfl
    refine ⟨fun i m H' => m = ds.length - i ∧ i ≤ ds.length ∧ ∃ F' as' μ2, cloopV j ds t c el (wipeE ρ (ow.map (·.2))) μ1.length (ds.drop i) μ2 = some μf ∧ Ext F1 (as1 ++ [Dl]) F' as' ∧ SR g F' as' μ2 H',
      ⟨ds.length, rfl, Nat.zero_le _, F1, as1 ++ [Dl], _, hq, .refl, sr3⟩, ?_⟩
    rintro i m H' ⟨rfl, hi', F', as', μ2, h3, x2, sr2⟩
    have hheld := cloopV_held h3
    have haj : as'[j]? = some a := by
      obtain ⟨_, l, rfl⟩ := x2
      have hlt := (List.getElem?_eq_some_iff.mp ha1).1
      rw [List.getElem?_append_left (by rw [List.length_append]; omega), List.getElem?_append_left hlt]
      exact ha1
    obtain ⟨_, vs0, hva, hvr⟩ := sr2.cells _ _ _ haj hheld
    obtain ⟨j1, j2⟩ := jokV sr2 hva hvr i
    have hka : as'[μ1.length]? = some Dl := by
      obtain ⟨_, l, rfl⟩ := x2
      rw [List.getElem?_append_left (List.getElem?_eq_some_iff.mp hk0).1]
      exact hk0
    by_cases hlt : i < ds.length
    · right
      obtain ⟨go, step⟩ := j2 ds[i] (by simp [hlt])
      rw [List.drop_eq_getElem_cons hlt] at h3
      unfold cloopV at h3
      rw [if_pos hheld] at h3
      cases q : t (.val ds[i]) (wipeE ρ (ow.map (·.2))) μ2 with
      | none => simp only [q] at h3; cases h3
      | some z =>
        obtain ⟨ρ3, μ3⟩ := z
        simp only [q] at h3
        refine ⟨go, fun H4 => ∃ F4 as4 μ4, cloopV j ds t c el (wipeE ρ (ow.map (·.2))) μ1.length (ds.drop (i + 1)) μ4 = some μf ∧ Ext F1 (as1 ++ [Dl]) F4 as4 ∧ SR g F4 as4 μ4 H4, fun H4 hN => ⟨ds.length - (i + 1), by omega, rfl, hlt, hN⟩, fun x H5 y => ?_⟩
        obtain ⟨F5, x5, sr5, r5⟩ := step x H5 y
        intro s H' C cl fp
        refine (hg s H' C cl fp).run F5 as' _ μ2 _ H5 (.val ds[i]) x _ ρ3 μ3 q sr5 (er1.mono (Ext.trans (show Ext F1 as1 F1 (as1 ++ [Dl]) from x3) (x2.trans x5))) r5 fun F6 as6 σ6 H6 x6 sr6 er6 w6 => ?_
        have xx : Ext F1 (as1 ++ [Dl]) F6 as6 := (x2.trans x5).trans x6
        have w7 : L2.wipe σ6 (ow.map (·.2)) = L2.wipe σ (ow.map (·.2)) := by
          rw [w6 _ hsl]
          apply List.ext_getElem?
          intro k
          by_cases hk : k ∈ ow.map (·.2)
          · rw [wipe_in hk, wipe_in hk, wipe_length]
          · rw [wipe_out hk]
        refine ⟨w7, ?_⟩
        -- the test, then the element
        have rest : ∀ (F7 : Hp) (as7 : List Addr) (μ7 : Sto) (H7 : Hp) (k : Bool), Ext F6 as6 F7 as7 → SR g F7 as7 μ7 H7 → c ρ3 μ3 = some (.ok k, μ7) →
            (if k = true then (∀ s H' C cl fp, wpE (blkX X scope s H' C cl fp) elt σ6 H7 fun y H4 => ∃ acc, H4 Dl = some (.lst acc) ∧ acc.length < sizeLine ∧ (fun H4 => ∃ F4 as4 μ4, cloopV j ds t c el (wipeE ρ (ow.map (·.2))) μ1.length (ds.drop (i + 1)) μ4 = some μf ∧ Ext F1 (as1 ++ [Dl]) F4 as4 ∧ SR g F4 as4 μ4 H4) (upd H4 Dl (.lst (acc ++ [y]))))
              else (fun H4 => ∃ F4 as4 μ4, cloopV j ds t c el (wipeE ρ (ow.map (·.2))) μ1.length (ds.drop (i + 1)) μ4 = some μf ∧ Ext F1 (as1 ++ [Dl]) F4 as4 ∧ SR g F4 as4 μ4 H4) H7) := by
          intro F7 as7 μ7 H7 k x7 sr7 hc
          rw [hc] at h3
          cases k with
          | false =>
            rw [if_neg Bool.false_ne_true]
            exact ⟨F7, as7, μ7, h3, xx.trans x7, sr7⟩
          | true =>
            rw [if_pos rfl]
            intro s H' C cl fp
            cases q2 : el ρ3 μ7 with
            | none => simp only [q2] at h3; cases h3
            | some z =>
              obtain ⟨r8, μ8⟩ := z
              cases r8 with
              | error _ => simp only [q2] at h3; cases h3
              | ok s8 =>
                simp only [q2] at h3
                refine (he s H' C cl fp).run F7 as7 ρ3 μ7 σ6 H7 _ (.ok s8) μ8 q2 sr7 (er6.mono x7) fun F8 as8 v8 H8 x8 sr8 ra8 => ?_
                cases q3 : cput μ1.length s8 μ8 with
                | none => simp only [q3] at h3; cases h3
                | some μ9 =>
                  simp only [q3] at h3
                  unfold cput at q3
                  split at q3
                  · rename_i d μa hd
                    obtain ⟨F8', x8', sr8', rs8⟩ := root_ok sr8 ra8
                    obtain ⟨F9, x9, sr9, r9⟩ := toD_rs sr8' rs8 hd
                    have xy : Ext F1 (as1 ++ [Dl]) F9 as8 := ((xx.trans x7).trans x8).trans (x8'.trans x9)
                    have hkb : as8[μ1.length]? = some Dl := by
                      obtain ⟨_, l, e⟩ := xy
                      rw [e, List.getElem?_append_left (List.getElem?_eq_some_iff.mp hk0).1]
                      exact hk0
                    split at q3
                    · rename_i acc hacc
                      split at q3
                      · rename_i hz
                        cases q3
                        obtain ⟨fa, vs, ha, rv⟩ := sr9.cells _ _ _ hkb hacc
                        refine ⟨vs, ha, by rw [rv.length]; exact hz, F9, as8, _, h3, xy, ?_⟩
                        exact sr9.write hkb fa ⟨fa, _, upd_same, rv.append (Reps.cons r9 Reps.nil)⟩
                      · cases q3
                    · cases q3
                  · cases q3
        cases ht with
        | nil => exact rest F6 as6 μ3 H6 true .refl sr6 rfl
        | one hte =>
          intro s H' C cl fp
          cases q2 : c ρ3 μ3 with
          | none => simp only [q2] at h3; cases h3
          | some z =>
            obtain ⟨r7, μ7⟩ := z
            cases r7 with
            | error _ => simp only [q2] at h3; cases h3
            | ok k => exact (hte s H' C cl fp).run F6 as6 ρ3 μ3 σ6 H6 _ (.ok k) μ7 q2 sr6 er6 fun F7 as7 H7 x7 sr7 => rest F7 as7 μ7 H7 k x7 sr7 q2
    · left
      have e : i = ds.length := by omega
      refine ⟨j1 e, ?_⟩
      rw [e, List.drop_length] at h3
      unfold cloopV at h3
      rw [if_pos hheld] at h3
      cases h3
      replace h2 : (match μf[μ1.length]? with | some (.lst acc) => some (Except.ok (S.fr acc), μf.take μ1.length) | _ => none) = some (r, μ') := h2
      split at h2
      · rename_i acc hacc
        cases h2
        obtain ⟨fa, vs, ha, rv⟩ := sr2.cells _ _ _ hka hacc
        have x9 : Ext F1 as1 F' as' := Ext.trans (show Ext F1 as1 F1 (as1 ++ [Dl]) from x3) x2
        refine post F' as1 _ H' (x1.trans ⟨x9.1, [], by rw [List.append_nil]⟩) (sr1.back x9 sr2) (ra_lst ha fa ?_ rv)
        intro hm
        exact n2 hm
      · cases h2

theorem se_compV (hgK : g.K = X.K) (hc : X.calm = true) (hN : X.N.Nodup) (hi : SE g X W iter m) (ok : BlkOk X.N X.env.scope scope ow) (hg : ∀ s H C cl fp, SG g (blkX X scope s H C cl fp) tg sl t) (hsl : ∀ i ∈ sl, i ∈ ow.map (·.2))
    (ht : STs g X scope ifs c) (he : ∀ s H C cl fp, SE g (blkX X scope s H C cl fp) W0 elt el) (hs : notSet iter = true) : SE g X W (.ListComp elt [⟨tg, iter, ifs, 0⟩] scope pos) (mCompV m t c el (ow.map (·.2))) := by
  obtain ⟨p1, p2, p3⟩ := comp_parts (elt := elt) hg ht
  exact ⟨fun F as ρ μ σ H Q r μ' h sr er post => wE (pe_lc hc hN pi_wp ok p1 p2 p3 (notSet_ok hs)) (comp_runV hgK hi hg hsl ht he h sr er post)⟩
theorem ss_setLcV (hgK : g.K = X.K) {i : Nat} {y : Str} {py spos : Pos} {fl : Bool} (hc : X.calm = true) (hN : X.N.Nodup) (hy : X.N[i]? = some y) (hyl : X.env.scope.names.lookup y = some .local)
    (hsw : swapsWith (.ListComp elt [⟨tg, iter, ifs, 0⟩] scope pos) (some (.Name y py)) spos.line X.env = pure true) (hi : SE g X W iter m) (ok : BlkOk X.N X.env.scope scope ow) (hg : ∀ s H C cl fp, SG g (blkX X scope s H C cl fp) tg sl t) (hsl : ∀ i ∈ sl, i ∈ ow.map (·.2))
    (ht : STs g X scope ifs c) (he : ∀ s H C cl fp, SE g (blkX X scope s H C cl fp) W0 elt el) (hs : notSet iter = true) : SS g X W (.Assign [.Name y py] (.ListComp elt [⟨tg, iter, ifs, 0⟩] scope pos) spos) (sAsg (gNm i fl) (mCompV m t c el (ow.map (·.2)))) := by
  obtain ⟨p1, p2, p3⟩ := comp_parts (elt := elt) hg ht
  refine ⟨fun F as ρ μ σ H D fl' ρ' μ' h sr er post => wS (ps_setLc hc hN hy hyl hsw pi_wp ok p1 p2 p3 (notSet_ok hs)) ?_⟩
  show tLc (wpI X tg iter) (fun v σ H Q => ∀ s H' C cl fp, wpG (blkX X scope s H' C cl fp) tg v σ H Q) (ttOf X scope ifs) (fun σ H Q => ∀ s H' C cl fp, wpE (blkX X scope s H' C cl fp) elt σ H Q) (ow.map (·.2)) σ H fun x H1 => gName i x σ H1 D.nx
  rcases exThen_some (show exThen _ _ _ = some (fl', ρ', μ') from h) with ⟨x, h1, h2, h3⟩ | ⟨s, μ1, h1, h2⟩
  · dsimp only at h1 h2 h3
    subst h2 h3
    exact comp_runV hgK hi hg hsl ht he h1 sr er (post.err er)
  · refine comp_runV hgK hi hg hsl ht he h1 sr er fun F1 as1 v H1 x1 sr1 ra1 => ?_
    obtain ⟨F2, as2, x2, sr2, rs2⟩ := own_ok fl sr1 ra1
    cases h2
    exact post F2 as2 _ H1 (x1.trans x2) sr2 (((er.mono x1).mono x2).set rs2)
end
section
variable {g : G} {P : Program} {w : World} {mg : Str → Option Value} {base : Heap} {k : Nat} {N : List Str} {sc : Scope} {own cm gb : Bool} {X : Cx} {W : WX} {i : Nat} {x : Str}
theorem Ct.comp0V {tg iter elt : Expr} {scope : Scope} {m : ME} {t : MG} {el : ME} {pos : Pos} {ow : List (Str × Nat)} {sl : List Nat} (c : Ct g P w mg base k N sc own true gb X W) (hi : SE g X W iter m) (ok : blkC N sc scope ow = true) (hk : kindF scope = true)
    (hsl : sl.all (fun i => (ow.map (·.2)).contains i) = true) (hs : notSet iter = true)
    (hg : ∀ X W, Ct g P w mg base k N (relS scope sc) false true gb X W → SG g X tg sl t) (he : ∀ X W, Ct g P w mg base k N (relS scope sc) false true gb X W → SE g X W elt el) :
    SE g X W (.ListComp elt [⟨tg, iter, [], 0⟩] scope pos) (mCompV m t tTrue el (ow.map (·.2))) := by
  have hk' := kindF_ok hk
  exact se_compV c.K (c.calm rfl) c.nd' hi (by rw [c.hN, c.hsc]; exact blkOk_by ok) (fun s H C cl fp => hg _ _ (c.blk hk' s H C cl fp)) (fun i h => List.contains_iff_mem.mp (List.all_eq_true.mp hsl i h)) .nil (fun s H C cl fp => he _ _ (c.blk hk' s H C cl fp)) hs
theorem Ct.comp1V {tg iter elt e : Expr} {scope : Scope} {m : ME} {t : MG} {cm : MT} {el : ME} {pos : Pos} {ow : List (Str × Nat)} {sl : List Nat} (c : Ct g P w mg base k N sc own true gb X W) (hi : SE g X W iter m) (ok : blkC N sc scope ow = true) (hk : kindF scope = true)
    (hsl : sl.all (fun i => (ow.map (·.2)).contains i) = true) (hs : notSet iter = true)
    (hg : ∀ X W, Ct g P w mg base k N (relS scope sc) false true gb X W → SG g X tg sl t) (ht : ∀ X W, Ct g P w mg base k N (relS scope sc) false true gb X W → STe g X W e cm) (he : ∀ X W, Ct g P w mg base k N (relS scope sc) false true gb X W → SE g X W elt el) :
    SE g X W (.ListComp elt [⟨tg, iter, [e], 0⟩] scope pos) (mCompV m t cm el (ow.map (·.2))) := by
  have hk' := kindF_ok hk
  exact se_compV c.K (c.calm rfl) c.nd' hi (by rw [c.hN, c.hsc]; exact blkOk_by ok) (fun s H C cl fp => hg _ _ (c.blk hk' s H C cl fp)) (fun i h => List.contains_iff_mem.mp (List.all_eq_true.mp hsl i h)) (.one fun s H C cl fp => ht _ _ (c.blk hk' s H C cl fp)) (fun s H C cl fp => he _ _ (c.blk hk' s H C cl fp)) hs
theorem Ct.comp0SV {y : Str} {py spos : Pos} {fl : Bool} {tg iter elt : Expr} {scope : Scope} {m : ME} {t : MG} {el : ME} {pos : Pos} {ow : List (Str × Nat)} {sl : List Nat} (c : Ct g P w mg base k N sc own true gb X W) (hl : locB N sc i y = true) (hi : SE g X W iter m) (ok : blkC N sc scope ow = true) (hk : kindF scope = true)
    (hsl : sl.all (fun i => (ow.map (·.2)).contains i) = true) (hs : notSet iter = true) (hsw : swB sc scope y py pos = true)
    (hg : ∀ X W, Ct g P w mg base k N (relS scope sc) false true gb X W → SG g X tg sl t) (he : ∀ X W, Ct g P w mg base k N (relS scope sc) false true gb X W → SE g X W elt el) :
    SS g X W (.Assign [.Name y py] (.ListComp elt [⟨tg, iter, [], 0⟩] scope pos) spos) (sAsg (gNm i fl) (mCompV m t tTrue el (ow.map (·.2)))) := by
  have hk' := kindF_ok hk
  exact ss_setLcV c.K (c.calm rfl) c.nd' (c.loc1 hl).1 (c.loc1 hl).2 ((sw_eq c.kd c.hsc).trans (congrArg pure hsw)) hi (by rw [c.hN, c.hsc]; exact blkOk_by ok) (fun s H C cl fp => hg _ _ (c.blk hk' s H C cl fp)) (fun i h => List.contains_iff_mem.mp (List.all_eq_true.mp hsl i h)) .nil (fun s H C cl fp => he _ _ (c.blk hk' s H C cl fp)) hs
theorem Ct.comp1SV {y : Str} {py spos : Pos} {fl : Bool} {tg iter elt e : Expr} {scope : Scope} {m : ME} {t : MG} {cm : MT} {el : ME} {pos : Pos} {ow : List (Str × Nat)} {sl : List Nat} (c : Ct g P w mg base k N sc own true gb X W) (hl : locB N sc i y = true) (hi : SE g X W iter m) (ok : blkC N sc scope ow = true) (hk : kindF scope = true)
    (hsl : sl.all (fun i => (ow.map (·.2)).contains i) = true) (hs : notSet iter = true) (hsw : swB sc scope y py pos = true)
    (hg : ∀ X W, Ct g P w mg base k N (relS scope sc) false true gb X W → SG g X tg sl t) (ht : ∀ X W, Ct g P w mg base k N (relS scope sc) false true gb X W → STe g X W e cm) (he : ∀ X W, Ct g P w mg base k N (relS scope sc) false true gb X W → SE g X W elt el) :
    SS g X W (.Assign [.Name y py] (.ListComp elt [⟨tg, iter, [e], 0⟩] scope pos) spos) (sAsg (gNm i fl) (mCompV m t cm el (ow.map (·.2)))) := by
  have hk' := kindF_ok hk
  exact ss_setLcV c.K (c.calm rfl) c.nd' (c.loc1 hl).1 (c.loc1 hl).2 ((sw_eq c.kd c.hsc).trans (congrArg pure hsw)) hi (by rw [c.hN, c.hsc]; exact blkOk_by ok) (fun s H C cl fp => hg _ _ (c.blk hk' s H C cl fp)) (fun i h => List.contains_iff_mem.mp (List.all_eq_true.mp hsl i h)) (.one fun s H C cl fp => ht _ _ (c.blk hk' s H C cl fp)) (fun s H C cl fp => he _ _ (c.blk hk' s H C cl fp)) hs
end
/-! ### reckoning -/
theorem mCompV_ap {m : ME} {t : MG} {c : MT} {el : ME} {own : List Nat} {ρ : En} {μ : Sto} : mCompV m t c el own ρ μ = andThen (m ρ μ) fun s μ1 => cvK t c el ρ own μ1 s := rfl
theorem cloopV_filter {α : Type} {t : MG} {c : MT} {el : ME} {ρ : En} {μ : Sto} {j : Nat} {all : List D} (emb : α → D) (p : α → Bool) (f : α → D) (hj : μ[j]? = some (.lst all)) : ∀ (l : List α) (acc : List D), acc.length + l.length ≤ 1000 → (∀ x ∈ l, ∀ acc : List D, ∃ ρ', t (.val (emb x)) ρ (μ ++ [.lst acc]) = some (ρ', μ ++ [.lst acc]) ∧ c ρ' (μ ++ [.lst acc]) = some (.ok (p x), μ ++ [.lst acc]) ∧ (p x = true → el ρ' (μ ++ [.lst acc]) = some (.ok (.val (f x)), μ ++ [.lst acc]))) →
    cloopV j all t c el ρ μ.length (l.map emb) (μ ++ [.lst acc]) = some (μ ++ [.lst (acc ++ (l.filter p).map f)])
  | [], acc, _, _ => by
    rw [List.filter_nil, List.map_nil, List.map_nil, List.append_nil]
    unfold cloopV
    rw [if_pos (by rw [List.getElem?_append_left (List.getElem?_eq_some_iff.mp hj).1]; exact hj)]
  | d :: ds, acc, hl, h => by
    obtain ⟨ρ', h1, h2, h3⟩ := h d List.mem_cons_self acc
    rw [List.length_cons] at hl
    rw [List.map_cons]
    unfold cloopV
    rw [if_pos (by rw [List.getElem?_append_left (List.getElem?_eq_some_iff.mp hj).1]; exact hj), h1]
    dsimp only
    rw [h2]
    cases e : p d with
    | false =>
      dsimp only
      rw [cloopV_filter emb p f hj ds acc (by omega) (fun x hx => h x (List.mem_cons_of_mem _ hx)), List.filter_cons_of_neg (by rw [e]; exact Bool.false_ne_true)]
    | true =>
      dsimp only
      rw [h3 e]
      dsimp only
      rw [cput_end (by omega)]
      dsimp only
      rw [cloopV_filter emb p f hj ds (acc ++ [f d]) (by rw [List.length_append, List.length_singleton]; omega) (fun x hx => h x (List.mem_cons_of_mem _ hx)), List.append_assoc, List.filter_cons_of_pos e]
      rfl
theorem compV_filter {α : Type} {m : ME} {t : MG} {c : MT} {el : ME} {ow : List Nat} {ρ : En} {μ μ1 : Sto} {j : Nat} {l : List α} (emb : α → D) (p : α → Bool) (f : α → D) (hm : m ρ μ = some (.ok (.cell j), μ1)) (hj : μ1[j]? = some (.lst (l.map emb))) (hl : l.length ≤ 1000)
    (h : ∀ x ∈ l, ∀ acc : List D, ∃ ρ', t (.val (emb x)) (wipeE ρ ow) (μ1 ++ [.lst acc]) = some (ρ', μ1 ++ [.lst acc]) ∧ c ρ' (μ1 ++ [.lst acc]) = some (.ok (p x), μ1 ++ [.lst acc]) ∧ (p x = true → el ρ' (μ1 ++ [.lst acc]) = some (.ok (.val (f x)), μ1 ++ [.lst acc]))) :
    mCompV m t c el ow ρ μ = some (.ok (.fr ((l.filter p).map f)), μ1) := by
  rw [mCompV_ap, hm, andThen_ok]
  unfold cvK
  dsimp only
  rw [hj]
  dsimp only
  rw [cloopV_filter emb p f hj l [] (by rw [List.length_nil]; omega) h, List.nil_append]
  unfold finC
  dsimp only
  rw [get_end]
  dsimp only
  rw [take_end]
end Sz

set_option Elab.async false
set_option linter.all false
set_option maxRecDepth 100000
set_option maxHeartbeats 4000000
/-! Sz Z9: own == and != with things of any kind; in, over lists and tuples that hold own objects. -/
namespace Sz
open PySem PySem.Spec PyProof.Rows L2
section
open PySem.SeqAt
open AutoSeq1 (wpAny_loadPart')
open MeetsSeq MeetsSeq2 MeetsSeq3 SeqRoads2
variable {prog : Program} {w : World} {A : Around} {R : Result → Shared → Prop}
/-! ### in, turn by turn -/
def InJ (prog : Program) (w : World) (A : Around) (R : Result → Shared → Prop) (l : Addr) (N : Nat) (x : Value) (I : Nat → Shared → Prop) : Prop :=
  ∀ i s, I i s → ∃ (items : Array Value) (n : Nat), s.heap.get? l = some { cls := .type "list", data := .seq items n } ∧ items.size = N ∧
    ∀ (h1 : i < items.size), wpAny (model prog w) A.in1 (eqBool items[i] x) (fun r s' => (r = false ∧ I (i + 1) s') ∨ (r = true ∧ R (.ok (.ret (.bool true))) s')) (fun e s' => R (.error e) s') s
theorem in_loopJ (l : Addr) (N : Nat) (x : Value) (I : Nat → Shared → Prop) (hl : InJ prog w A R l N x I)
    (fin : ∀ s, I N s → R (.ok (.ret (.bool false))) s) (k : Nat) :
    ∀ i : Nat, N - i = k → i ≤ N → ∀ s, I i s →
      wpAny (model prog w) A.in1 (Builtin.«list.__contains__.loop» ⟨[.ref l, x, rawInt i], []⟩) (GQ.FinOf prog w A R) (fun e s' => R (.error e) s') s := by
  induction k with
  | zero =>
    intro i hk hi s h
    obtain ⟨items, n, hl1, hs1, _⟩ := hl _ _ h
    have hi' : i = N := by omega
    have hR : R (.ok (.ret (.bool false))) s := fin s (hi' ▸ h)
    obtain ⟨hp, g, d, tk, os⟩ := s
    wp_walk using wpAny_loadPart' hl1
    have hi1 : items[((i : Nat) : Int).toNat]? = none := by simp; omega
    rw [hi1]
    wp_walk
    exact hR
  | succ k ih =>
    intro i hk hi s h
    obtain ⟨items, n, hl1, hs1, turn⟩ := hl _ _ h
    have hlt : i < items.size := by omega
    have ht := turn hlt
    obtain ⟨hp, g, d, tk, os⟩ := s
    wp_walk using wpAny_loadPart' hl1
    have hi1 : items[((i : Nat) : Int).toNat]? = some items[i] := by simp [hlt]
    have hc : ((i : Int) + 1) = ((i + 1 : Nat) : Int) := by omega
    rw [hi1]
    refine wpAny_bind (wpAny_mono ht (fun r s2 h2 => ?_) fun _ _ x => x)
    rcases h2 with ⟨hr, h2⟩ | ⟨hr, h2⟩
    · subst hr
      have hrec := ih (i + 1) (by omega) (by omega) s2 h2
      obtain ⟨hp2, g2, d2, tk2, os2⟩ := s2
      wp_walk
      rw [hc]
      exact ⟨plainId_quiet plain_contains_loop _, codeAny_builtin entry_contains_loop (by
        rw [Around.under_plainId plain_contains_loop _]
        exact hrec)⟩
    · subst hr
      wp_walk
      exact h2
theorem list_inJ (l : Addr) (N : Nat) (x : Value) (I : Nat → Shared → Prop) (hl : InJ prog w A R l N x I)
    (fin : ∀ s, I N s → R (.ok (.ret (.bool false))) s) {s : Shared} (h : I 0 s) :
    wpAny (model prog w) A.in1 (Builtin.«list.__contains__» ⟨[.ref l, x], []⟩) (GQ.FinOf prog w A R) (fun e s' => R (.error e) s') s := by
  obtain ⟨items, n, hl1, hs1, _⟩ := hl _ _ h
  have hrec := in_loopJ (A := A) (R := R) l N x I hl fin _ 0 rfl (Nat.zero_le _) s h
  obtain ⟨hp, g, d, tk, os⟩ := s
  wp_walk using wpAny_loadPart' hl1
  exact ⟨plainId_quiet plain_contains_loop _, codeAny_builtin entry_contains_loop (by
    rw [Around.under_plainId plain_contains_loop _]
    exact hrec)⟩
theorem tuple_inJ (l : Addr) (items : Array Value) (n : Nat) (dd : Option Addr) (sl : Array (Option Value)) (x : Value) (I : Nat → Shared → Prop)
    (turn : ∀ i (h1 : i < items.size) s, I i s → wpAny (model prog w) A.in1 (eqBool items[i] x) (fun r s' => (r = false ∧ I (i + 1) s') ∨ (r = true ∧ R (.ok (.ret (.bool true))) s')) (fun e s' => R (.error e) s') s)
    (fin : ∀ s, I items.size s → R (.ok (.ret (.bool false))) s) {s : Shared} (hl1 : s.heap.get? l = some { cls := .type "tuple", dict := dd, data := .seq items n, slots := sl }) (h : I 0 s) :
    wpAny (model prog w) A.in1 (Builtin.«tuple.__contains__» ⟨[.ref l, x], []⟩) (GQ.FinOf prog w A R) (fun e s' => R (.error e) s') s := by
  have h0 := h
  obtain ⟨hp, g, d, tk, os⟩ := s
  wp_walk using wpAny_loadPart' hl1, wpAny_forIn_array _ (fun rest b s' => b.1 = none ∧ ∃ i, rest = items.toList.drop i ∧ i ≤ items.size ∧ I i s') _
  case turn =>
    rintro y rest b s' ⟨hb', i, hz, hi, hI⟩
    have hlt : i < items.toList.length := by
      rcases Nat.lt_or_ge i items.toList.length with h' | h'
      · exact h'
      · rw [List.drop_of_length_le h'] at hz; cases hz
    have h1 : i < items.size := by simpa using hlt
    rw [List.drop_eq_getElem_cons hlt] at hz
    injection hz with hyx hrest
    have hy : y = items[i] := by simpa using hyx
    subst hy
    refine wpAny_bind (wpAny_mono (turn i h1 s' hI) (fun r s2 q2 => ?_) fun _ _ x => x)
    rcases q2 with ⟨hr, q2⟩ | ⟨hr, q2⟩
    · subst hr
      wp_walk
      exact ⟨rfl, i + 1, hrest, h1, q2⟩
    · subst hr
      wp_walk
      exact q2
  case fin =>
    rintro ⟨b1, b2⟩ s' ⟨hb', i, hz, hi, hI⟩
    simp only at hb'
    subst hb'
    have hge : items.size ≤ i := by
      rcases Nat.lt_or_ge i items.toList.length with h' | h'
      · rw [List.drop_eq_getElem_cons h'] at hz; cases hz
      · simpa using h'
    have hi' : i = items.size := by omega
    have hR := fin s' (hi' ▸ hI)
    wp_walk
    simpa using hR
  case h =>
    exact ⟨rfl, 0, rfl, Nat.zero_le _, h0⟩
end
section
open PySem.SeqAt
open AutoSeq1 (wpAny_loadPart')
open MeetsSeq MeetsSeq2 MeetsSeq3 SeqRoads2
variable {prog : Program} {w : World} {A : Around} {E : Value → Shared → Prop} {s : Shared}
theorem in_listJ {l : Addr} {N : Nat} {x : Value} {Q : Value → Shared → Prop} (I : Nat → Shared → Prop)
    (hl : ∀ i s, I i s → ∃ (items : Array Value) (n : Nat), s.heap.get? l = some { cls := .type "list", data := .seq items n } ∧ items.size = N ∧
      ∀ (h1 : i < items.size), wpAny (model prog w) A.in1 (eqBool items[i] x) (fun r s' => (r = false ∧ I (i + 1) s') ∨ (r = true ∧ Q (.bool true) s')) E s)
    (fin : ∀ s, I N s → Q (.bool false) s) (h : I 0 s) : wpAny (model prog w) A (compareOp .In x (.ref l)) Q E s := by
  obtain ⟨items, n, hl1, _, _⟩ := hl _ _ h
  show wpAny _ A (do return .bool (← contains (.ref l) x)) Q E s
  refine wpAny_bind (wpAny_contains_slot ⟨_, hl1, rfl⟩ F.slot_list_contains (wpAny_mono (GQ.call_here (Q := fun v s' => ∃ b, v = .bool b ∧ Q (.bool b) s') F.slot_list_contains ⟨_, hl1, rfl⟩ F.entry_list_contains (F.args_list_contains_2 _ _) ?_) (fun v s' hv => ?_) fun _ _ e => e))
  · refine list_inJ (R := wants (fun v s' => ∃ b, v = .bool b ∧ Q (.bool b) s') E) l N x I (fun i s hI => ?_) (fun s' q => ⟨_, rfl, fin s' q⟩) h
    obtain ⟨items, n, hl1, hs1, turn⟩ := hl i s hI
    refine ⟨items, n, hl1, hs1, fun h1 => wpAny_mono (turn h1) (fun r s' q => ?_) fun _ _ x => x⟩
    rcases q with q | ⟨q1, q2⟩
    · exact .inl q
    · exact .inr ⟨q1, _, rfl, q2⟩
  · obtain ⟨b, rfl, hq⟩ := hv
    exact wpAny_truthy_bool (wpAny_pure hq)
theorem in_tupJ {l : Addr} {items : Array Value} {x : Value} {Q : Value → Shared → Prop} (I : Nat → Shared → Prop) (hl : s.heap.IsTuple l items)
    (turn : ∀ i (h1 : i < items.size) s, I i s → wpAny (model prog w) A.in1 (eqBool items[i] x) (fun r s' => (r = false ∧ I (i + 1) s') ∨ (r = true ∧ Q (.bool true) s')) E s)
    (fin : ∀ s, I items.size s → Q (.bool false) s) (h : I 0 s) : wpAny (model prog w) A (compareOp .In x (.ref l)) Q E s := by
  obtain ⟨⟨cls, dd, data, sl⟩, ho, hc, n, hd⟩ := id hl
  simp only at hc hd
  subst hc hd
  show wpAny _ A (do return .bool (← contains (.ref l) x)) Q E s
  refine wpAny_bind (wpAny_contains_slot ⟨_, ho, rfl⟩ F.slot_tuple_contains (wpAny_mono (GQ.call_here (Q := fun v s' => ∃ b, v = .bool b ∧ Q (.bool b) s') F.slot_tuple_contains ⟨_, ho, rfl⟩ F.entry_tuple_contains (F.args_tuple_contains_2 _ _) ?_) (fun v s' hv => ?_) fun _ _ e => e))
  · refine tuple_inJ (R := wants (fun v s' => ∃ b, v = .bool b ∧ Q (.bool b) s') E) l items n dd sl x I (fun i h1 s hI => wpAny_mono (turn i h1 s hI) (fun r s' q => ?_) fun _ _ x => x) (fun s' q => ⟨_, rfl, fin s' q⟩) ho h
    rcases q with q | ⟨q1, q2⟩
    · exact .inl q
    · exact .inr ⟨q1, _, rfl, q2⟩
  · obtain ⟨b, rfl, hq⟩ := hv
    exact wpAny_truthy_bool (wpAny_pure hq)
/-! ### a thing on the left that knows nothing of own objects -/
theorem int_eq_ins (b : Int) (u : Tok) (l C dx : Addr) :
    Meets (Builtin.«int.__eq__» ⟨[.int b u, .ref l], []⟩) (fun _ R s => s.heap.get? l = some (PySem.W.instObj C dx) ∧ R (.ok (.ret .notImplemented)) s) :=
  .of_wp fun prog w A R s h => by obtain ⟨hp, g, d, tk, os⟩ := s; obtain ⟨hl, h⟩ := h; unfold PySem.W.instObj at hl; wp_walk using wpAny_loadPart' hl, wpAny_load hl; exact ⟨_, rfl, h⟩
theorem bool_eq_ins (b : Bool) (l C dx : Addr) :
    Meets (Builtin.«int.__eq__» ⟨[.bool b, .ref l], []⟩) (fun _ R s => s.heap.get? l = some (PySem.W.instObj C dx) ∧ R (.ok (.ret .notImplemented)) s) :=
  .of_wp fun prog w A R s h => by obtain ⟨hp, g, d, tk, os⟩ := s; obtain ⟨hl, h⟩ := h; unfold PySem.W.instObj at hl; wp_walk using wpAny_loadPart' hl, wpAny_load hl; exact ⟨_, rfl, h⟩
theorem str_eq_ins (b : Str) (u : Tok) (l C dx : Addr) :
    Meets (Builtin.«str.__eq__» ⟨[.str b u, .ref l], []⟩) (fun _ R s => s.heap.get? l = some (PySem.W.instObj C dx) ∧ R (.ok (.ret .notImplemented)) s) :=
  .of_wp fun prog w A R s h => by obtain ⟨hp, g, d, tk, os⟩ := s; obtain ⟨hl, h⟩ := h; unfold PySem.W.instObj at hl; wp_walk using wpAny_loadPart' hl, wpAny_load hl; exact ⟨_, rfl, h⟩
theorem list_eq_ins {K : PySem.W.Frag} (l : Addr) (items : Array Value) (n : Nat) (dd : Option Addr) (sl : Array (Option Value)) (x C dx : Addr) (hn : PySem.W.subIn K (.ref C) (.type "list") = some false) :
    Meets (Builtin.«list.__eq__» ⟨[.ref l, .ref x], []⟩) (fun _ R s => K.In s.heap ∧ s.heap.get? l = some { cls := .type "list", dict := dd, data := .seq items n, slots := sl } ∧ s.heap.get? x = some (PySem.W.instObj C dx) ∧ R (.ok (.ret .notImplemented)) s) :=
  .of_wp fun prog w A R s h => by
    obtain ⟨hp, g, d, tk, os⟩ := s
    obtain ⟨X, hl, hx, h⟩ := h
    unfold PySem.W.instObj at hx
    wp_walk using wpAny_loadPart' hl, wpAny_loadPart' hx, wpAny_load hx, PySem.W.Looks.here (PySem.W.looks_subIn X hn)
    exact ⟨_, rfl, h⟩
theorem tuple_eq_ins {K : PySem.W.Frag} (l : Addr) (items : Array Value) (n : Nat) (dd : Option Addr) (sl : Array (Option Value)) (x C dx : Addr) (hn : PySem.W.subIn K (.ref C) (.type "tuple") = some false) :
    Meets (Builtin.«tuple.__eq__» ⟨[.ref l, .ref x], []⟩) (fun _ R s => K.In s.heap ∧ s.heap.get? l = some { cls := .type "tuple", dict := dd, data := .seq items n, slots := sl } ∧ s.heap.get? x = some (PySem.W.instObj C dx) ∧ R (.ok (.ret .notImplemented)) s) :=
  .of_wp fun prog w A R s h => by
    obtain ⟨hp, g, d, tk, os⟩ := s
    obtain ⟨X, hl, hx, h⟩ := h
    unfold PySem.W.instObj at hx
    wp_walk using wpAny_loadPart' hl, wpAny_loadPart' hx, wpAny_load hx, PySem.W.Looks.here (PySem.W.looks_subIn X hn)
    exact ⟨_, rfl, h⟩
open PySem.W in
/-- t == an own object, t a thing that knows nothing of it -/
theorem thing_rc {K : PySem.W.Frag} {x C f : Addr} {ox : Obj} {od : Option Obj} {T id : String} {t : Value} {Q : Value → Shared → Prop} (hu : A.units < cLine) (X : K.In s.heap) (I : InstAt s.heap x ox C od) (ht : s.TypeIs t T) (hn : subIn K (.ref C) (.type T) = some false)
    (hs : findIn K (.ref C) "__eq__" = some (some (.ref f))) (hf : isFn K (.ref f) = true) (sl : Slot T (cmpInfo .Eq).2.1 id) (hc : ∀ Q' : Value → Shared → Prop, Q' .notImplemented s → wpAny (model prog w) A (call (.builtin id) [t, .ref x]) Q' E s)
    (h : wpAny (model prog w) A (call (.ref f) [.ref x, t]) (PySem.W.CmpBack Q) E s) : wpAny (model prog w) A (richCompare .Eq t (.ref x)) Q E s := by
  have one : wpAny (model prog w) A (tryCompare (.ref x) "__eq__" t) (fun r s' => ∃ v, r = some v ∧ Q v s') E s := by
    unfold tryCompare
    refine wpAny_bind (ifBound_K X I hs hf (wpAny_mono h (fun v s' hv => ?_) fun _ _ e => e))
    cases v <;> first | exact hv.elim | exact wpAny_pure ⟨_, rfl, hv⟩
  rcases hi : cmpInfo CmpOp.Eq with ⟨sym, f1, f2⟩
  have hi2 : cmpInfo CmpOp.Eq = ("==", ("__eq__" : Str), ("__eq__" : Str)) := rfl
  rw [hi2] at sl
  simp only [richCompare, hi, ht.oneThing_none]
  rw [hi2] at hi
  cases hi
  refine wpAny_holding (wpAny_bind (wpAny_cRoomFor hu ?_))
  refine wpAny_bind (wpAny_typeOf ht (wpAny_bind (I.type.here ?_)))
  rw [if_pos (by rfl)]
  refine wpAny_bind ((looks_subIn X hn).here ?_)
  simp only [Bool.false_eq_true, if_false, Bool.not_false, if_true]
  refine wpAny_bind (m := tryCompare t _ (.ref x)) (wpAny_tryCompare_declines ht sl (hc _ ⟨rfl, ?_⟩))
  refine wpAny_bind (m := tryCompare (.ref x) _ t) (wpAny_mono one (fun r s' z => ?_) fun _ _ e => e)
  obtain ⟨v, rfl, hq⟩ := z
  exact wpAny_pure hq
theorem eqBool_of_rc {u' v' : Value} {Q : Bool → Shared → Prop} (hne : u' ≠ v') (hf : ∀ b t, u' ≠ .float b t) (h : wpAny (model prog w) A (richCompare .Eq u' v') (fun r s' => ∃ b, r = .bool b ∧ Q b s') E s) : wpAny (model prog w) A (eqBool u' v') Q E s := by
  unfold eqBool
  refine wpAny_holding ?_
  refine wpAny_ite_split (fun hab => absurd (eq_of_beq hab) hne) (fun _ => ?_)
  dsimp only
  split
  · rename_i heq
    injection heq with h1 _
    exact absurd h1 (hf _ _)
  · refine wpAny_bind (m := richCompare .Eq u' v') (wpAny_mono h (fun r s' z => ?_) fun _ _ e => e)
    obtain ⟨b, rfl, hq⟩ := z
    exact wpAny_truthy_bool hq
end
/-! ### over trees -/
def tyD : D → Option String
  | .non => some "NoneType"
  | .bl _ => some "bool"
  | .int _ => some "int"
  | .str _ => some "str"
  | .tup _ => some "tuple"
  | .lst _ => some "list"
  | _ => none
def tyNs : List String := ["NoneType", "bool", "int", "str", "tuple", "list"]
theorem tyD_mem {d : D} {T : String} (h : tyD d = some T) : T ∈ tyNs := by
  cases d <;> first | (cases h; done) | (cases h; decide)
/-- the classes have nothing to do with the built-in types -/
structure AnC (g : G) (eqm : Nat → Option FnI) : Prop where
  an : ∀ c fi, eqm c = some fi → ∀ T ∈ tyNs, PySem.W.notFirst g.K (g.cad c) (.type T) = true ∧ PySem.W.subIn g.K (.ref (g.cad c)) (.type T) = some false
/-- what an own __eq__ tells of a thing that is no object -/
noncomputable def eqOwS (eqm : Nat → Option FnI) (c : Nat) (x y : D) : Option Bool := match eqm c with
  | some fi => (match eqSem fi x y with
    | some (.val (.bl b)) => some b
    | _ => none)
  | none => none
theorem eqOwS_some {eqm : Nat → Option FnI} {c : Nat} {x y : D} {b : Bool} (h : eqOwS eqm c x y = some b) : ∃ fi, eqm c = some fi ∧ (∀ μ : Sto, fi.sem [.val x, .val y] μ = some (.ok (.val (.bl b)), μ)) := by
  unfold eqOwS at h
  split at h
  · rename_i fi hfi
    split at h
    · rename_i hs
      cases h
      obtain ⟨d, e, hs⟩ := eqSem_some hs
      cases e
      exact ⟨fi, hfi, hs⟩
    · cases h
  · cases h
theorem eqOwS_eq {eqm : Nat → Option FnI} {c : Nat} {x y : D} {fi : FnI} {b : Bool} (h : eqm c = some fi) (hs : ∀ μ : Sto, fi.sem [.val x, .val y] μ = some (.ok (.val (.bl b)), μ)) : eqOwS eqm c x y = some b := by
  unfold eqOwS
  rw [h]
  dsimp only
  rw [eqSem_eq hs]
/-- == of an own object and anything -/
noncomputable def eqA (eqm : Nat → Option FnI) (x y : D) : Option Bool := match x, y with
  | .obj c fs, .obj c' gs => if (eqm c').isSome then eqOwn eqm c (.obj c fs) (.obj c' gs) else none
  | .obj c fs, y => if (tyD y).isSome then eqOwS eqm c (.obj c fs) y else none
  | x, .obj c fs => if (tyD x).isSome then eqOwS eqm c (.obj c fs) x else none
  | _, _ => none
/-- of things of kinds that are never alike -/
def eqK : D → D → Option Bool
  | .tup _, .lst _ => some false
  | .lst _, .tup _ => some false
  | .tup _, .non => some false
  | .non, .tup _ => some false
  | .tup _, .bl _ => some false
  | .bl _, .tup _ => some false
  | .tup _, .int _ => some false
  | .int _, .tup _ => some false
  | .tup _, .str _ => some false
  | .str _, .tup _ => some false
  | .lst _, .non => some false
  | .non, .lst _ => some false
  | .lst _, .bl _ => some false
  | .bl _, .lst _ => some false
  | .lst _, .int _ => some false
  | .int _, .lst _ => some false
  | .lst _, .str _ => some false
  | .str _, .lst _ => some false
  | _, _ => none
noncomputable def eqI (eqm : Nat → Option FnI) (x y : D) : Option Bool := match eqA eqm x y with
  | some b => some b
  | none => (match eqF x y with
    | some b => some b
    | none => eqK x y)
section
open PySem.SeqAt
variable {g : G} {P : Program} {w : World} {mg : Str → Option Value} {base : Heap} {k : Nat} {N : List Str} {sc : Scope} {own cm gb gc : Bool} {X : Cx} {W : WX}
theorem rep_heap {pins : List (Addr × Obj)} {σ : L2.St} {F : Hp} {as : List Addr} {μ : Sto} {H : Hp} {st : Shared} {d : D} {u : V} {t : Value} {T : String} (hK : g.K = X.K) (hT : tyD d = some T) (sr : SR g F as μ H) (rx : Rep g F d u) (ru : RelV u t) (I : Inv X pins σ H st) : st.TypeIs t T ∧ ∀ M, PySem.W.Looks M st.heap (typeOf t) (.type T) := by
  cases d <;> first | (cases hT; done) | skip
  · cases hT; unfold Rep at rx; subst rx; cases (show t = .none from ru); exact ⟨rfl, fun M => PySem.W.Looks.of_pure (typeIs_none st)⟩
  · cases hT; unfold Rep at rx; subst rx; cases (show t = .bool _ from ru); exact ⟨rfl, fun M => PySem.W.Looks.of_pure rfl⟩
  · cases hT; unfold Rep at rx; subst rx; obtain ⟨tk, rfl⟩ := (show ∃ tk, t = .int _ tk from ru); exact ⟨typeIs_int _ _ _, fun M => PySem.W.Looks.of_pure (typeIs_int st _ _)⟩
  · cases hT; unfold Rep at rx; subst rx; obtain ⟨tk, rfl⟩ := (show ∃ tk, t = .str _ tk from ru); exact ⟨typeIs_str _ _ _, fun M => PySem.W.Looks.of_pure (typeIs_str st _ _)⟩
  · cases hT
    unfold Rep at rx
    obtain ⟨a, vs, rfl, s1, r1⟩ := rx
    cases (show t = .ref a from ru)
    obtain ⟨its, v1, t1, z1⟩ := I.tuple (hK ▸ seqT_mono sr.sub s1)
    obtain ⟨o, ho, hc, _⟩ := t1
    exact ⟨⟨o, ho, hc⟩, fun M => hc ▸ (PySem.W.Looks.ld ho).andThen .now⟩
  · cases hT
    obtain ⟨a, vs, rfl, q1, r1⟩ := vr_lst sr (.inr rx)
    cases (show t = .ref a from ru)
    obtain ⟨z, its, n, r, e⟩ := I.hok a _ q1
    exact ⟨⟨_, e, rfl⟩, fun M => (PySem.W.Looks.ld e).andThen .now⟩
theorem decl_at {pins : List (Addr × Obj)} {σ : L2.St} {F : Hp} {as : List Addr} {μ : Sto} {H : Hp} {st : Shared} {A : Around} {E : Value → Shared → Prop} {d : D} {u : V} {t : Value} {T : String} {x C dx : Addr} (hK : g.K = X.K) (hT : tyD d = some T) (sr : SR g F as μ H) (rx : Rep g F d u) (ru : RelV u t) (I : Inv X pins σ H st)
    (hx : st.heap.get? x = some (PySem.W.instObj C dx)) (hn : PySem.W.subIn X.K (.ref C) (.type T) = some false) :
    ∃ id, Slot T (cmpInfo .Eq).2.1 id ∧ ∀ Q' : Value → Shared → Prop, Q' .notImplemented st → wpAny (model X.prog X.w) A (call (.builtin id) [t, .ref x]) Q' E st := by
  have ht := (rep_heap hK hT sr rx ru I).1
  cases d <;> first | (cases hT; done) | skip
  · cases hT; unfold Rep at rx; subst rx; cases (show t = .none from ru)
    exact ⟨_, PySem.F.slot_NoneType_eq, fun Q' h => call_gives PySem.F.slot_NoneType_eq ht PySem.F.entry_NoneType_eq (PySem.F.args_NoneType_eq_2 _ _) (PySem.SeqAt.NoneType___eq___none_ref_0 x) h⟩
  · cases hT; unfold Rep at rx; subst rx; cases (show t = .bool _ from ru)
    exact ⟨_, PySem.F.slot_bool_eq, fun Q' h => call_meets PySem.F.slot_bool_eq ht PySem.F.entry_int_eq (PySem.F.args_int_eq_2 _ _) (bool_eq_ins _ x C dx) ⟨hx, h⟩⟩
  · cases hT; unfold Rep at rx; subst rx; obtain ⟨tk, rfl⟩ := (show ∃ tk, t = .int _ tk from ru)
    exact ⟨_, PySem.F.slot_int_eq, fun Q' h => call_meets PySem.F.slot_int_eq ht PySem.F.entry_int_eq (PySem.F.args_int_eq_2 _ _) (int_eq_ins _ tk x C dx) ⟨hx, h⟩⟩
  · cases hT; unfold Rep at rx; subst rx; obtain ⟨tk, rfl⟩ := (show ∃ tk, t = .str _ tk from ru)
    exact ⟨_, PySem.F.slot_str_eq, fun Q' h => call_meets PySem.F.slot_str_eq ht PySem.F.entry_str_eq (PySem.F.args_str_eq_2 _ _) (str_eq_ins _ tk x C dx) ⟨hx, h⟩⟩
  · cases hT
    unfold Rep at rx
    obtain ⟨a, vs, rfl, s1, r1⟩ := rx
    cases (show t = .ref a from ru)
    obtain ⟨its, v1, t1, z1⟩ := I.tuple (hK ▸ seqT_mono sr.sub s1)
    obtain ⟨⟨cls, dd, data, sl⟩, ho, hc, n, hd⟩ := id t1
    simp only at hc hd
    subst hc hd
    exact ⟨_, PySem.F.slot_tuple_eq, fun Q' h => call_meets PySem.F.slot_tuple_eq ht PySem.F.entry_tuple_eq (PySem.F.args_tuple_eq_2 _ _) (tuple_eq_ins a _ n dd sl x C dx hn) ⟨I.kIn, ho, hx, h⟩⟩
  · cases hT
    obtain ⟨a, vs, rfl, q1, r1⟩ := vr_lst sr (.inr rx)
    cases (show t = .ref a from ru)
    obtain ⟨z, its, n, r, e⟩ := I.hok a _ q1
    exact ⟨_, PySem.F.slot_list_eq, fun Q' h => call_meets PySem.F.slot_list_eq ht PySem.F.entry_list_eq (PySem.F.args_list_eq_2 _ _) (list_eq_ins a _ n none #[] x C dx hn) ⟨I.kIn, e, hx, h⟩⟩
/-- what a comparison with an own object tells -/
theorem eqA_rc {eqm : Nat → Option FnI} {j : Nat} (c : Ct g P w mg base k N sc own cm gb X W) (E : EqC gc g P w mg base eqm j) (En : AnC g eqm) {pins : List (Addr × Obj)} {σ : L2.St} {μ : Sto} {A : Around} (room : Room j A) (fr : A.frames = X.A.frames) (gd : gc = true → A.guards = some []) {x y : D} {b : Bool} {u v : V} {u' v' : Value} {st : Shared} {F : Hp} {as : List Addr} {H : Hp}
    (h : eqA eqm x y = some b) (sr : SR g F as μ H) (rx : Rep g F x u) (ry : Rep g F y v) (ru : RelV u u') (rv : RelV v v') (I : Inv X pins σ H st) :
    wpAny (model X.prog X.w) A (richCompare .Eq u' v') (fun r s' => r = .bool b ∧ EqJ g X pins σ F as μ s') X.xe st := by
  have hK : g.K = X.K := c.hK.symm
  have en0 : Env0 X.prog X.w X.K X.mg X.base A X.stack st H := by
    have e := I.env0
    exact ⟨by rw [fr]; exact e.frames, e.mod, e.bs, e.bsz, e.funs, e.frf, e.hok, e.bare⟩
  unfold eqA at h
  split at h
  · rename_i c1 fs c2 gs
    split at h
    · rename_i hc2
      obtain ⟨fi2, hfi2⟩ := Option.isSome_iff_exists.mp hc2
      obtain ⟨fi, hfi, hs, _⟩ := eqOwn_some h
      have rx0 := rx
      have ry0 := ry
      unfold Rep at rx ry
      obtain ⟨a, dx, vs, rfl, e1, l1, r1⟩ := rx
      obtain ⟨a2, dy, us, rfl, e2, l2, r2⟩ := ry
      cases (show u' = .ref a from ru)
      cases (show v' = .ref a2 from rv)
      obtain ⟨f, hF, hfind, hfn, hps⟩ := E.ok c1 fi hfi
      have hnf := E.nf c1 c2 fi fi2 hfi hfi2
      obtain ⟨mA, J, _⟩ := ins_get I.hok (sr.sub _ _ e1)
      obtain ⟨mB, J', _⟩ := ins_get I.hok (sr.sub _ _ e2)
      obtain ⟨od, J, _⟩ := J.look
      obtain ⟨od', J', _⟩ := J'.look
      obtain ⟨m, hFr⟩ := I.fr
      refine PySem.W.cmp_K (op := .Eq) (tb := .ref (g.cad c2)) room.units0 hFr I.ok.mod.kin J J'.type (hK ▸ hnf) (hK ▸ hfind) (hK ▸ hfn) ?_
      refine wpAny_mono (own_run3 c hF rfl hps room gd (a := .ref a) (b := .ref a2) rfl rfl hs sr rx0 ry0 I en0) (fun v s' told => ?_) fun _ _ z => z
      obtain ⟨F', as', w', H', x', sr', rw', rel, I'⟩ := told
      unfold Rep at rw'
      subst rw'
      cases (show v = Value.bool b from rel)
      exact ⟨rfl, F', as', H', x', sr', I'⟩
    · cases h
  · rename_i c1 fs _
    split at h
    · rename_i hty
      obtain ⟨T, hT⟩ := Option.isSome_iff_exists.mp hty
      obtain ⟨fi, hfi, hs⟩ := eqOwS_some h
      have rx0 := rx
      unfold Rep at rx
      obtain ⟨a, dx, vs, rfl, e1, l1, r1⟩ := rx
      cases (show u' = .ref a from ru)
      obtain ⟨f, hF, hfind, hfn, hps⟩ := E.ok c1 fi hfi
      obtain ⟨hnf, _⟩ := En.an c1 fi hfi T (tyD_mem hT)
      obtain ⟨mA, J, _⟩ := ins_get I.hok (sr.sub _ _ e1)
      obtain ⟨od, J, _⟩ := J.look
      obtain ⟨m, hFr⟩ := I.fr
      refine PySem.W.cmp_K (op := .Eq) (tb := .type T) room.units0 hFr I.ok.mod.kin J ((rep_heap hK hT sr ry rv I).2 _) (hK ▸ hnf) (hK ▸ hfind) (hK ▸ hfn) ?_
      refine wpAny_mono (own_run3 c hF rfl hps room gd (a := .ref a) (b := v) rfl rv hs sr rx0 ry I en0) (fun v s' told => ?_) fun _ _ z => z
      obtain ⟨F', as', w', H', x', sr', rw', rel, I'⟩ := told
      unfold Rep at rw'
      subst rw'
      cases (show v = Value.bool b from rel)
      exact ⟨rfl, F', as', H', x', sr', I'⟩
    · cases h
  · rename_i c1 fs _
    split at h
    · rename_i hty
      obtain ⟨T, hT⟩ := Option.isSome_iff_exists.mp hty
      obtain ⟨fi, hfi, hs⟩ := eqOwS_some h
      have ry0 := ry
      unfold Rep at ry
      obtain ⟨a, dx, vs, rfl, e1, l1, r1⟩ := ry
      cases (show v' = .ref a from rv)
      obtain ⟨f, hF, hfind, hfn, hps⟩ := E.ok c1 fi hfi
      obtain ⟨_, hsub⟩ := En.an c1 fi hfi T (tyD_mem hT)
      obtain ⟨mA, J, _⟩ := ins_get I.hok (sr.sub _ _ e1)
      have hx := J.obj
      obtain ⟨od, J, _⟩ := J.look
      obtain ⟨id, sl, hc⟩ := decl_at (A := A) (E := X.xe) hK hT sr rx ru I hx (hK ▸ hsub)
      refine thing_rc room.units0 I.kIn J (rep_heap hK hT sr rx ru I).1 (hK ▸ hsub) (hK ▸ hfind) (hK ▸ hfn) sl hc ?_
      refine wpAny_mono (own_run3 c hF rfl hps room gd (a := .ref a) (b := u) rfl ru hs sr ry0 rx I en0) (fun v s' told => ?_) fun _ _ z => z
      obtain ⟨F', as', w', H', x', sr', rw', rel, I'⟩ := told
      unfold Rep at rw'
      subst rw'
      cases (show v = Value.bool b from rel)
      exact ⟨rfl, F', as', H', x', sr', I'⟩
    · cases h
  · cases h
theorem obj_ne_thing {pins : List (Addr × Obj)} {σ : L2.St} {F : Hp} {as : List Addr} {μ : Sto} {H : Hp} {st : Shared} {c1 : Nat} {fs : List D} {y : D} {u v : V} {u' v' : Value} {T : String} (hK : g.K = X.K) (hT : tyD y = some T) (sr : SR g F as μ H) (rx : Rep g F (.obj c1 fs) u) (ry : Rep g F y v) (ru : RelV u u') (rv : RelV v v') (I : Inv X pins σ H st) : u' ≠ v' := by
  have ht := (rep_heap hK hT sr ry rv I).1
  unfold Rep at rx
  obtain ⟨a, dx, vs, rfl, e1, l1, r1⟩ := rx
  cases (show u' = .ref a from ru)
  obtain ⟨mA, J, _⟩ := ins_get I.hok (sr.sub _ _ e1)
  intro e
  subst e
  obtain ⟨o, ho, hc⟩ := ht
  rw [J.obj] at ho
  cases ho
  cases hc
/-- == of two things that may stand in a list, as a list asks it -/
theorem eqI_run {eqm : Nat → Option FnI} {j : Nat} (c : Ct g P w mg base k N sc own cm gb X W) (E : EqC gc g P w mg base eqm j) (En : AnC g eqm) {pins : List (Addr × Obj)} {σ : L2.St} {μ : Sto} {A : Around} (room : Room j A) (fr : A.frames = X.A.frames) (gd : gc = true → A.guards = some []) {x y : D} {b : Bool} {u v : V} {u' v' : Value} {st : Shared} {F : Hp} {as : List Addr} {H : Hp}
    (h : eqI eqm x y = some b) (sr : SR g F as μ H) (rx : Rep g F x u) (ry : Rep g F y v) (ru : RelV u u') (rv : RelV v v') (I : Inv X pins σ H st) :
    wpAny (model X.prog X.w) A (eqBool u' v') (fun r s' => r = b ∧ EqJ g X pins σ F as μ s') X.xe st := by
  have hK : g.K = X.K := c.hK.symm
  have keep : EqJ g X pins σ F as μ st := ⟨F, as, H, .refl, sr, I⟩
  unfold eqI at h
  split at h
  · rename_i b' h
    cases ‹some b' = some b›
    have go : u' ≠ v' → (∀ bits t, u' ≠ .float bits t) → wpAny (model X.prog X.w) A (eqBool u' v') (fun r s' => r = b ∧ EqJ g X pins σ F as μ s') X.xe st := fun hne hf =>
      eqBool_of_rc hne hf (wpAny_mono (eqA_rc c E En room fr gd h sr rx ry ru rv I) (fun r s' z => ⟨b, z.1, rfl, z.2⟩) fun _ _ z => z)
    have h0 := h
    unfold eqA at h
    split at h
    · rename_i c1 fs c2 gs
      split at h
      · obtain ⟨fi, hfi, hs, ha⟩ := eqOwn_some h
        have rx0 := rx
        have ry0 := ry
        unfold Rep at rx ry
        obtain ⟨a, dx, vs, rfl, e1, l1, r1⟩ := rx
        obtain ⟨a2, dy, us, rfl, e2, l2, r2⟩ := ry
        cases (show u' = .ref a from ru)
        cases (show v' = .ref a2 from rv)
        by_cases hne : a = a2
        · subst hne
          have hb : b = true := by
            cases b with
            | true => rfl
            | false => exact (ha rfl g F (.ref a) rx0 ry0).elim
          subst hb
          exact EqAt.same (A := A) (s := st) (.ref a) X.prog X.w X.xe _ ⟨rfl, keep⟩
        · exact go (fun e => hne (by injection e)) (fun _ _ e => by cases e)
      · cases h
    · rename_i c1 fs _
      split at h
      · rename_i hty
        obtain ⟨T, hT⟩ := Option.isSome_iff_exists.mp hty
        refine go (obj_ne_thing hK hT sr rx ry ru rv I) (fun bits t e => ?_)
        unfold Rep at rx
        obtain ⟨a, dx, vs, rfl, e1, l1, r1⟩ := rx
        cases (show u' = .ref a from ru)
        cases e
      · cases h
    · rename_i c1 fs _
      split at h
      · rename_i hty
        obtain ⟨T, hT⟩ := Option.isSome_iff_exists.mp hty
        refine go (fun e => obj_ne_thing hK hT sr ry rx rv ru I e.symm) (fun bits t e => ?_)
        subst e
        have ht := (rep_heap hK hT sr rx ru I).1
        have := tyD_mem hT
        cases (show (Sem.pure (Value.type "float") : Sem Value) = Sem.pure (.type T) from ht)
        exact absurd this (by decide)
      · cases h
    · cases h
  · split at h
    · rename_i b' h
      cases ‹some b' = some b›
      unfold eqF at h
      split at h
      · rename_i p q hp hq
        cases h
        obtain ⟨e1, f1⟩ := flat_rep hp rx
        obtain ⟨e2, f2⟩ := flat_rep hq ry
        subst e1 e2
        exact eqAt_V (A := A) (s := st) ru rv f1 f2 X.prog X.w X.xe _ ⟨rfl, keep⟩
      · cases h
    · unfold eqK at h
      split at h
      · cases h
        unfold Rep at rx
        obtain ⟨a9, a9s, rfl, a91, _⟩ := rx
        obtain ⟨a9i, _, a9t, _⟩ := I.tuple (hK ▸ seqT_mono sr.sub a91)
        cases (show u' = .ref a9 from ru)
        obtain ⟨q, qs, rfl, q1, _⟩ := vr_lst sr (.inr ry)
        obtain ⟨_, qi, qn, _, qe⟩ := I.hok q _ q1
        cases (show v' = .ref q from rv)
        have qt : st.heap.IsList q qi.toArray := ⟨_, qe, rfl, qn, rfl⟩
        exact EqAt.tuple_list (A := A) a9t qt room.units0 X.prog X.w X.xe _ ⟨rfl, keep⟩
      · cases h
        obtain ⟨a9, a9s, rfl, a91, _⟩ := vr_lst sr (.inr rx)
        obtain ⟨_, a9i, a9n, _, a9e⟩ := I.hok a9 _ a91
        cases (show u' = .ref a9 from ru)
        have a9t : st.heap.IsList a9 a9i.toArray := ⟨_, a9e, rfl, a9n, rfl⟩
        unfold Rep at ry
        obtain ⟨q, qs, rfl, q1, _⟩ := ry
        obtain ⟨qi, _, qt, _⟩ := I.tuple (hK ▸ seqT_mono sr.sub q1)
        cases (show v' = .ref q from rv)
        exact EqAt.list_tuple (A := A) a9t qt room.units0 X.prog X.w X.xe _ ⟨rfl, keep⟩
      · cases h
        unfold Rep at rx
        obtain ⟨p, ps, rfl, p1, _⟩ := rx
        obtain ⟨pi, _, pt, _⟩ := I.tuple (hK ▸ seqT_mono sr.sub p1)
        cases (show u' = .ref p from ru)
        unfold Rep at ry
        subst ry
        cases (show v' = .none from rv)
        exact EqAt.tuple_none (A := A) pt room.units0 X.prog X.w X.xe _ ⟨rfl, keep⟩
      · cases h
        unfold Rep at ry
        obtain ⟨p, ps, rfl, p1, _⟩ := ry
        obtain ⟨pi, _, pt, _⟩ := I.tuple (hK ▸ seqT_mono sr.sub p1)
        cases (show v' = .ref p from rv)
        unfold Rep at rx
        subst rx
        cases (show u' = .none from ru)
        exact EqAt.none_tuple (A := A) pt room.units0 X.prog X.w X.xe _ ⟨rfl, keep⟩
      · cases h
        unfold Rep at rx
        obtain ⟨p, ps, rfl, p1, _⟩ := rx
        obtain ⟨pi, _, pt, _⟩ := I.tuple (hK ▸ seqT_mono sr.sub p1)
        cases (show u' = .ref p from ru)
        unfold Rep at ry
        subst ry
        cases (show v' = .bool _ from rv)
        exact EqAt.tuple_bool (A := A) _ pt room.units0 X.prog X.w X.xe _ ⟨rfl, keep⟩
      · cases h
        unfold Rep at ry
        obtain ⟨p, ps, rfl, p1, _⟩ := ry
        obtain ⟨pi, _, pt, _⟩ := I.tuple (hK ▸ seqT_mono sr.sub p1)
        cases (show v' = .ref p from rv)
        unfold Rep at rx
        subst rx
        cases (show u' = .bool _ from ru)
        exact EqAt.bool_tuple (A := A) _ pt room.units0 X.prog X.w X.xe _ ⟨rfl, keep⟩
      · cases h
        unfold Rep at rx
        obtain ⟨p, ps, rfl, p1, _⟩ := rx
        obtain ⟨pi, _, pt, _⟩ := I.tuple (hK ▸ seqT_mono sr.sub p1)
        cases (show u' = .ref p from ru)
        unfold Rep at ry
        subst ry
        obtain ⟨tk, rfl⟩ := (show ∃ tk, v' = .int _ tk from rv)
        exact EqAt.tuple_int (A := A) _ tk pt room.units0 X.prog X.w X.xe _ ⟨rfl, keep⟩
      · cases h
        unfold Rep at ry
        obtain ⟨p, ps, rfl, p1, _⟩ := ry
        obtain ⟨pi, _, pt, _⟩ := I.tuple (hK ▸ seqT_mono sr.sub p1)
        cases (show v' = .ref p from rv)
        unfold Rep at rx
        subst rx
        obtain ⟨tk, rfl⟩ := (show ∃ tk, u' = .int _ tk from ru)
        exact EqAt.int_tuple (A := A) _ tk pt room.units0 X.prog X.w X.xe _ ⟨rfl, keep⟩
      · cases h
        unfold Rep at rx
        obtain ⟨p, ps, rfl, p1, _⟩ := rx
        obtain ⟨pi, _, pt, _⟩ := I.tuple (hK ▸ seqT_mono sr.sub p1)
        cases (show u' = .ref p from ru)
        unfold Rep at ry
        subst ry
        obtain ⟨tk, rfl⟩ := (show ∃ tk, v' = .str _ tk from rv)
        exact EqAt.tuple_str (A := A) _ tk pt room.units0 X.prog X.w X.xe _ ⟨rfl, keep⟩
      · cases h
        unfold Rep at ry
        obtain ⟨p, ps, rfl, p1, _⟩ := ry
        obtain ⟨pi, _, pt, _⟩ := I.tuple (hK ▸ seqT_mono sr.sub p1)
        cases (show v' = .ref p from rv)
        unfold Rep at rx
        subst rx
        obtain ⟨tk, rfl⟩ := (show ∃ tk, u' = .str _ tk from ru)
        exact EqAt.str_tuple (A := A) _ tk pt room.units0 X.prog X.w X.xe _ ⟨rfl, keep⟩
      · cases h
        obtain ⟨p, ps, rfl, p1, _⟩ := vr_lst sr (.inr rx)
        obtain ⟨_, pi, pn, _, pe⟩ := I.hok p _ p1
        cases (show u' = .ref p from ru)
        have pt : st.heap.IsList p pi.toArray := ⟨_, pe, rfl, pn, rfl⟩
        unfold Rep at ry
        subst ry
        cases (show v' = .none from rv)
        exact EqAt.list_none (A := A) pt room.units0 X.prog X.w X.xe _ ⟨rfl, keep⟩
      · cases h
        obtain ⟨p, ps, rfl, p1, _⟩ := vr_lst sr (.inr ry)
        obtain ⟨_, pi, pn, _, pe⟩ := I.hok p _ p1
        cases (show v' = .ref p from rv)
        have pt : st.heap.IsList p pi.toArray := ⟨_, pe, rfl, pn, rfl⟩
        unfold Rep at rx
        subst rx
        cases (show u' = .none from ru)
        exact EqAt.none_list (A := A) pt room.units0 X.prog X.w X.xe _ ⟨rfl, keep⟩
      · cases h
        obtain ⟨p, ps, rfl, p1, _⟩ := vr_lst sr (.inr rx)
        obtain ⟨_, pi, pn, _, pe⟩ := I.hok p _ p1
        cases (show u' = .ref p from ru)
        have pt : st.heap.IsList p pi.toArray := ⟨_, pe, rfl, pn, rfl⟩
        unfold Rep at ry
        subst ry
        cases (show v' = .bool _ from rv)
        exact EqAt.list_bool (A := A) _ pt room.units0 X.prog X.w X.xe _ ⟨rfl, keep⟩
      · cases h
        obtain ⟨p, ps, rfl, p1, _⟩ := vr_lst sr (.inr ry)
        obtain ⟨_, pi, pn, _, pe⟩ := I.hok p _ p1
        cases (show v' = .ref p from rv)
        have pt : st.heap.IsList p pi.toArray := ⟨_, pe, rfl, pn, rfl⟩
        unfold Rep at rx
        subst rx
        cases (show u' = .bool _ from ru)
        exact EqAt.bool_list (A := A) _ pt room.units0 X.prog X.w X.xe _ ⟨rfl, keep⟩
      · cases h
        obtain ⟨p, ps, rfl, p1, _⟩ := vr_lst sr (.inr rx)
        obtain ⟨_, pi, pn, _, pe⟩ := I.hok p _ p1
        cases (show u' = .ref p from ru)
        have pt : st.heap.IsList p pi.toArray := ⟨_, pe, rfl, pn, rfl⟩
        unfold Rep at ry
        subst ry
        obtain ⟨tk, rfl⟩ := (show ∃ tk, v' = .int _ tk from rv)
        exact EqAt.list_int (A := A) _ tk pt room.units0 X.prog X.w X.xe _ ⟨rfl, keep⟩
      · cases h
        obtain ⟨p, ps, rfl, p1, _⟩ := vr_lst sr (.inr ry)
        obtain ⟨_, pi, pn, _, pe⟩ := I.hok p _ p1
        cases (show v' = .ref p from rv)
        have pt : st.heap.IsList p pi.toArray := ⟨_, pe, rfl, pn, rfl⟩
        unfold Rep at rx
        subst rx
        obtain ⟨tk, rfl⟩ := (show ∃ tk, u' = .int _ tk from ru)
        exact EqAt.int_list (A := A) _ tk pt room.units0 X.prog X.w X.xe _ ⟨rfl, keep⟩
      · cases h
        obtain ⟨p, ps, rfl, p1, _⟩ := vr_lst sr (.inr rx)
        obtain ⟨_, pi, pn, _, pe⟩ := I.hok p _ p1
        cases (show u' = .ref p from ru)
        have pt : st.heap.IsList p pi.toArray := ⟨_, pe, rfl, pn, rfl⟩
        unfold Rep at ry
        subst ry
        obtain ⟨tk, rfl⟩ := (show ∃ tk, v' = .str _ tk from rv)
        exact EqAt.list_str (A := A) _ tk pt room.units0 X.prog X.w X.xe _ ⟨rfl, keep⟩
      · cases h
        obtain ⟨p, ps, rfl, p1, _⟩ := vr_lst sr (.inr ry)
        obtain ⟨_, pi, pn, _, pe⟩ := I.hok p _ p1
        cases (show v' = .ref p from rv)
        have pt : st.heap.IsList p pi.toArray := ⟨_, pe, rfl, pn, rfl⟩
        unfold Rep at rx
        subst rx
        obtain ⟨tk, rfl⟩ := (show ∃ tk, u' = .str _ tk from ru)
        exact EqAt.str_list (A := A) _ tk pt room.units0 X.prog X.w X.xe _ ⟨rfl, keep⟩
      · cases h
theorem eqA_run {eqm : Nat → Option FnI} {j : Nat} (c : Ct g P w mg base k N sc own cm gb X W) (E : EqC gc g P w mg base eqm j) (Ee : NeC g eqm) (En : AnC g eqm) {pins : List (Addr × Obj)} {σ : L2.St} {μ : Sto} {A : Around} (room : Room j A) (fr : A.frames = X.A.frames) (gd : gc = true → A.guards = some []) {c1 : Nat} {fs : List D} {y : D} {b : Bool} {u v : V} {u' v' : Value} {st : Shared} {F : Hp} {as : List Addr} {H : Hp} (hu1 : A.in1.units < cLine) (room1 : Room j A.in1)
    (h : eqA eqm (.obj c1 fs) y = some b) (sr : SR g F as μ H) (rx : Rep g F (.obj c1 fs) u) (ry : Rep g F y v) (ru : RelV u u') (rv : RelV v v') (I : Inv X pins σ H st) :
    wpAny (model X.prog X.w) A (richCompare .NotEq u' v') (fun r s' => r = .bool (!b) ∧ EqJ g X pins σ F as μ s') X.xe st := by
  have hK : g.K = X.K := c.hK.symm
  have en0 : Env0 X.prog X.w X.K X.mg X.base A.in1 X.stack st H := by
    have e := I.env0.in1
    exact ⟨by rw [show A.in1.frames = X.A.in1.frames from fr]; exact e.frames, e.mod, e.bs, e.bsz, e.funs, e.frf, e.hok, e.bare⟩
  unfold eqA at h
  split at h
  · rename_i c1 fs c2 gs heq
    cases heq
    split at h
    · rename_i hc2
      obtain ⟨fi2, hfi2⟩ := Option.isSome_iff_exists.mp hc2
      obtain ⟨fi, hfi, hs, _⟩ := eqOwn_some h
      have rx0 := rx
      have ry0 := ry
      unfold Rep at rx ry
      obtain ⟨a, dx, vs, rfl, e1, l1, r1⟩ := rx
      obtain ⟨a2, dy, us, rfl, e2, l2, r2⟩ := ry
      cases (show u' = .ref a from ru)
      cases (show v' = .ref a2 from rv)
      obtain ⟨f, hF, hfind, hfn, hps⟩ := E.ok _ fi hfi
      have hnf := E.nf _ _ fi fi2 hfi hfi2
      obtain ⟨hne, hm⟩ := Ee.ne _ fi hfi
      obtain ⟨mA, J, _⟩ := ins_get I.hok (sr.sub _ _ e1)
      obtain ⟨mB, J', _⟩ := ins_get I.hok (sr.sub _ _ e2)
      obtain ⟨od, J, _⟩ := J.look
      obtain ⟨od', J', _⟩ := J'.look
      obtain ⟨m, hFr⟩ := I.fr
      refine ne_K (tb := .ref (g.cad _)) room.units0 hu1 hFr I.ok.mod.kin J J'.type (hK ▸ hnf) (hK ▸ hne) (hK ▸ hm) (hK ▸ hfind) (hK ▸ hfn) ?_
      refine wpAny_mono (own_run3 c hF rfl hps room1 (fun e => gd e) (a := .ref a) (b := .ref a2) rfl rfl hs sr rx0 ry0 I en0) (fun v s' told => ?_) fun _ _ z => z
      obtain ⟨F', as', w', H', x', sr', rw', rel, I'⟩ := told
      unfold Rep at rw'
      subst rw'
      cases (show v = Value.bool b from rel)
      exact ⟨b, rfl, rfl, F', as', H', x', sr', I'⟩
    · cases h
  · rename_i heq _
    cases heq
    split at h
    · rename_i hty
      obtain ⟨T, hT⟩ := Option.isSome_iff_exists.mp hty
      obtain ⟨fi, hfi, hs⟩ := eqOwS_some h
      have rx0 := rx
      unfold Rep at rx
      obtain ⟨a, dx, vs, rfl, e1, l1, r1⟩ := rx
      cases (show u' = .ref a from ru)
      obtain ⟨f, hF, hfind, hfn, hps⟩ := E.ok _ fi hfi
      obtain ⟨hnf, _⟩ := En.an _ fi hfi T (tyD_mem hT)
      obtain ⟨hne, hm⟩ := Ee.ne _ fi hfi
      obtain ⟨mA, J, _⟩ := ins_get I.hok (sr.sub _ _ e1)
      obtain ⟨od, J, _⟩ := J.look
      obtain ⟨m, hFr⟩ := I.fr
      refine ne_K (tb := .type T) room.units0 hu1 hFr I.ok.mod.kin J ((rep_heap hK hT sr ry rv I).2 _) (hK ▸ hnf) (hK ▸ hne) (hK ▸ hm) (hK ▸ hfind) (hK ▸ hfn) ?_
      refine wpAny_mono (own_run3 c hF rfl hps room1 (fun e => gd e) (a := .ref a) (b := v) rfl rv hs sr rx0 ry I en0) (fun v s' told => ?_) fun _ _ z => z
      obtain ⟨F', as', w', H', x', sr', rw', rel, I'⟩ := told
      unfold Rep at rw'
      subst rw'
      cases (show v = Value.bool b from rel)
      exact ⟨b, rfl, rfl, F', as', H', x', sr', I'⟩
    · cases h
  · rename_i hno
    exact (hno _ _ rfl).elim
  · cases h
end
/-! ### the codes -/
/-- an operation on things that are no changing lists; the old one for all else -/
def finV (opA : D → D → Option Bool) (dop : D → D → Option S) (μ : Sto) (s1 s2 : S) : Option R :=
  match (match s1, s2 with
    | .val x, .val y => opA x y
    | _, _ => none) with
  | some b => some (.ok (.val (.bl b)), μ)
  | none => fin2 dop μ s1 s2
def mOpA (opA : D → D → Option Bool) (dop : D → D → Option S) (a b : ME) : ME := fun ρ μ => andThen (a ρ μ) fun s1 μ1 => andThen (b ρ μ1) fun s2 μ2 => finV opA dop μ2 (rt s1) (rt s2)
def OpA (g : G) (X : Cx) (f : Value → Value → Sem Value) (opA : D → D → Option Bool) : Prop :=
  ∀ (x y : D) (b : Bool) (F : Hp) (as : List Addr) (μ : Sto) (H : Hp) (v u : V) (Q : VK), opA x y = some b → SR g F as μ H → Rep g F x v → Rep g F y u →
    (∀ F' as' H', Ext F as F' as' → SR g F' as' μ H' → Q (.bl b) H') → rcan X f v u H Q
section
variable {g : G} {P : Program} {w : World} {mg : Str → Option Value} {base : Heap} {k : Nat} {N : List Str} {sc : Scope} {own cm gb gc : Bool} {X : Cx} {W : WX} {a b : Expr} {ma mb : ME} {dop : D → D → Option S} {opA : D → D → Option Bool} {pos : Pos}
theorem finV_ok {σ : L2.St} {f : Value → Value → Sem Value} {F : Hp} {as : List Addr} {μ : Sto} {H : Hp} {Q : VK} {r : Except Ex S} {μ' : Sto} {s1 s2 : S} {v1 v2 : V} (hA : OpA g X f opA) (ho : OpOk g X f dop) (h : finV opA dop μ s1 s2 = some (r, μ')) (sr : SR g F as μ H) (r1 : RS g F as s1 v1) (r2 : RS g F as s2 v2) (post : PostE g W F as σ Q r μ') : rcan X f v1 v2 H Q := by
  unfold finV at h
  split at h
  · rename_i b hb
    cases h
    split at hb
    · exact hA _ _ b F as μ H v1 v2 Q hb sr r1 r2 fun F' as' H' e' r' => post F' as' (.bl b) H' e' r' ra_bl
    · cases hb
  · obtain ⟨x, y, s, e1, e2, e3, e4, e5⟩ := fin2_some h
    subst e4 e5
    exact ho x y s F as μ' H v1 v2 Q e3 sr (view_rs sr r1 e1) (view_rs sr r2 e2) fun F' as' w H' e' r' q => post F' as' w H' e' r' q
theorem twoA_ok {f : Value → Value → Sem Value} {F : Hp} {as : List Addr} {ρ : En} {μ : Sto} {σ : L2.St} {H : Hp} {Q : VK} {r : Except Ex S} {μ' : Sto} (hA : OpA g X f opA) (ho : OpOk g X f dop) (ha : SE g X W a ma) (hb : SE g X W b mb)
    (h : mOpA opA dop ma mb ρ μ = some (r, μ')) (sr : SR g F as μ H) (er : ER g F as ρ σ) (post : PostE g W F as σ Q r μ') : wpE X a σ H fun x H1 => wpE X b σ H1 fun y H2 => rcan X f x y H2 Q := by
  refine ha.then_ h sr er (fun x e => by subst e; exact post) fun s1 μ1 F1 as1 v1 H1 h1 x1 sr1 er1 ra1 => ?_
  obtain ⟨F1', x1', sr1', rs1⟩ := root_ok sr1 ra1
  refine hb.then_ h1 sr1' (er1.mono x1') (fun x e => by subst e; exact PErr.ext (x1.trans x1') post) fun s2 μ2 F2 as2 v2 H2 h2 x2 sr2 er2 ra2 => ?_
  obtain ⟨F2', x2', sr2', rs2⟩ := root_ok sr2 ra2
  exact finV_ok (σ := σ) (W := W) hA ho h2 sr2' ((rs1.mono x2).mono x2') rs2 (PostE.ext ((x1.trans x1').trans (x2.trans x2')) post)
theorem se_cmpA {op : CmpOp} (hA : OpA g X (compareOp op) opA) (ho : OpOk g X (compareOp op) dop) (ha : SE g X W a ma) (hb : SE g X W b mb) (hm : behindInMarks op b = false) : SE g X W (.Compare a [op] [b] pos) (mOpA opA dop ma mb) :=
  ⟨fun F as ρ μ σ H Q r μ' h sr er post => wE (pe_cmpR op_can pe_wp pe_wp hm) (twoA_ok hA ho ha hb h sr er post)⟩
theorem st_cmpA {op : CmpOp} (hA : OpA g X (compareOp op) opA) (ho : OpOk g X (compareOp op) dop) (ha : SE g X W a ma) (hb : SE g X W b mb) (hm : behindInMarks op b = false) : STe g X W (.Compare a [op] [b] pos) (tBl (mOpA opA dop ma mb)) := by
  refine ⟨fun F as ρ μ σ H Q r μ' h sr er post => wT (pt_cmpR op_can pe_wp pe_wp hm) ?_⟩
  show tOp _ _ _ σ H fun x H' => ∃ k, x = .bl k ∧ Q k H'
  rcases andThen_some h with ⟨x, h1, h2⟩ | ⟨s1, μ1, h1, h2⟩
  · dsimp only at h2
    subst h2
    exact twoA_ok hA ho ha hb h1 sr er (show PostE g W F as σ _ (.error x) μ' from post)
  · refine twoA_ok hA ho ha hb h1 sr er fun F' as' v H' e' r' q => ?_
    cases z : bl? s1 with
    | none => rw [z] at h2; cases h2
    | some k =>
      rw [z] at h2
      rw [bl?_some z] at q
      cases h2
      exact ⟨k, q, post F' as' H' e' r'⟩
noncomputable def neA (eqm : Nat → Option FnI) : D → D → Option Bool
  | .obj c fs, y => (eqA eqm (.obj c fs) y).map fun b => !b
  | _, _ => none
def inL (eq : D → D → Option Bool) (x : D) : List D → Option Bool
  | [] => some false
  | d :: ds => (match eq d x with
    | some true => some true
    | some false => inL eq x ds
    | none => none)
noncomputable def inA (eqm : Nat → Option FnI) : D → D → Option Bool
  | x, .lst ds => inL (eqI eqm) x ds
  | x, .tup ds => inL (eqI eqm) x ds
  | _, _ => none
theorem Ct.eqA_ok {eqm : Nat → Option FnI} {j : Nat} (c : Ct g P w mg base k N sc own true gb X W) (E : EqC gc g P w mg base eqm j) (En : AnC g eqm) (hgd : leB gc gb = true) (hj : Nat.ble j k = true) : OpA g X (compareOp .Eq) (eqA eqm) := by
  intro x y b F as μ H v u Q e sr hx hy kk
  have room : Room j X.A := (c.room rfl).mono (Nat.le_of_ble_eq_true hj)
  have gd : gc = true → X.A.guards = some [] := fun e => c.gd (leB_ok hgd e)
  intro pins st σ v' u' I rv ru
  refine wpAny_mono (eqA_rc c E En room rfl gd e sr hx hy rv ru I) (fun r s' z => ?_) fun _ _ z => z
  obtain ⟨rfl, F', as', H', x', sr', I'⟩ := z
  exact ⟨.bl b, H', I', rfl, kk F' as' H' x' sr'⟩
theorem Ct.neA_ok {eqm : Nat → Option FnI} {j : Nat} (c : Ct g P w mg base k N sc own true gb X W) (E : EqC gc g P w mg base eqm j) (Ee : NeC g eqm) (En : AnC g eqm) (hgd : leB gc gb = true) (hj : Nat.ble (j + 1) k = true) : OpA g X (compareOp .NotEq) (neA eqm) := by
  intro x y b F as μ H v u Q e sr hx hy kk
  have room : Room (j + 1) X.A := (c.room rfl).mono (Nat.le_of_ble_eq_true hj)
  have gd : gc = true → X.A.guards = some [] := fun e => c.gd (leB_ok hgd e)
  unfold neA at e
  split at e
  · obtain ⟨b', hb, rfl⟩ := Option.map_eq_some_iff.mp e
    intro pins st σ v' u' I rv ru
    refine wpAny_mono (eqA_run c E Ee En (room.mono (by omega)) rfl gd (by have := room.in1.un; omega) room.in1 hb sr hx hy rv ru I) (fun r s' z => ?_) fun _ _ z => z
    obtain ⟨rfl, F', as', H', x', sr', I'⟩ := z
    exact ⟨.bl (!b'), H', I', rfl, kk F' as' H' x' sr'⟩
  · cases e
theorem inL_turn {eqm : Nat → Option FnI} {x : D} {b : Bool} : ∀ {ds : List D} {d : D}, inL (eqI eqm) x (d :: ds) = some b → (eqI eqm d x = some true ∧ b = true) ∨ (eqI eqm d x = some false ∧ inL (eqI eqm) x ds = some b) := by
  intro ds d h
  unfold inL at h
  split at h
  · rename_i q
    cases h
    exact .inl ⟨q, rfl⟩
  · rename_i q
    exact .inr ⟨q, h⟩
  · cases h
theorem Ct.inA_ok {eqm : Nat → Option FnI} {j : Nat} (c : Ct g P w mg base k N sc own true gb X W) (E : EqC gc g P w mg base eqm j) (En : AnC g eqm) (hgd : leB gc gb = true) (hj : Nat.ble (j + 1) k = true) : OpA g X (compareOp .In) (inA eqm) := by
  intro x y b F as μ H v u Q e sr hx hy kk
  have hK : g.K = X.K := c.hK.symm
  have room : Room (j + 1) X.A := (c.room rfl).mono (Nat.le_of_ble_eq_true hj)
  have gd : gc = true → X.A.guards = some [] := fun e => c.gd (leB_ok hgd e)
  unfold inA at e
  split at e
  · rename_i ds
    intro pins st σ v' u' I rv ru
    obtain ⟨a, vs, rfl, q1, r1⟩ := vr_lst sr (.inr hy)
    cases (show u' = .ref a from ru)
    have hlen := r1.length
    refine in_listJ (N := ds.length) (fun i s' => i ≤ ds.length ∧ (∃ F' as' H', Ext F as F' as' ∧ SR g F' as' μ H' ∧ Inv X pins σ H' s') ∧ inL (eqI eqm) x (ds.drop i) = some b) (fun i s' hI => ?_) (fun s' hI => ?_) ⟨Nat.zero_le _, ⟨F, as, H, .refl, sr, I⟩, e⟩
    · obtain ⟨hi, ⟨F1, as1, H1, x1, sr1, I1⟩, hin⟩ := hI
      obtain ⟨a', vs1, ea, q1, r1⟩ := vr_lst sr1 (.inr (hy.mono x1.1))
      cases ea
      obtain ⟨_, its, n, vr1, e1⟩ := I1.hok a _ q1
      have l1 : its.length = ds.length := by rw [← vr1.length, r1.length]
      refine ⟨its.toArray, n, e1, by rw [List.size_toArray, l1], fun h1 => ?_⟩
      have k0 : i < its.length := by simpa using h1
      have k1 : i < ds.length := l1 ▸ k0
      rw [List.drop_eq_getElem_cons k1] at hin
      obtain ⟨p, hp, rp⟩ := r1.get (List.getElem?_eq_getElem k1)
      obtain ⟨p', hp', rp'⟩ := vr1.get hp
      have e2 : its.toArray[i] = p' := by
        have : its[i]? = some its.toArray[i] := by
          rw [List.getElem?_eq_getElem k0] <;> simp
        rw [this] at hp'
        simpa using hp'
      rw [e2]
      rcases inL_turn hin with ⟨hq, rfl⟩ | ⟨hq, hrest⟩
      · refine wpAny_mono (eqI_run (A := X.A.in1) c E En (room.in1) rfl gd hq sr1 rp (hx.mono x1.1) rp' rv I1) (fun r s2 z => ?_) fun _ _ z => z
        obtain ⟨rfl, F', as', H', x', sr', I'⟩ := z
        exact .inr ⟨rfl, .bl true, H', I', rfl, kk F' as' H' (x1.trans x') sr'⟩
      · refine wpAny_mono (eqI_run (A := X.A.in1) c E En (room.in1) rfl gd hq sr1 rp (hx.mono x1.1) rp' rv I1) (fun r s2 z => ?_) fun _ _ z => z
        obtain ⟨rfl, F', as', H', x', sr', I'⟩ := z
        exact .inl ⟨rfl, k1, ⟨F', as', H', x1.trans x', sr', I'⟩, hrest⟩
    · obtain ⟨hi, ⟨F1, as1, H1, x1, sr1, I1⟩, hin⟩ := hI
      rw [List.drop_of_length_le (Nat.le_refl _)] at hin
      cases hin
      exact ⟨.bl false, H1, I1, rfl, kk F1 as1 H1 x1 sr1⟩
  · rename_i ds
    intro pins st σ v' u' I rv ru
    have hy0 := hy
    unfold Rep at hy
    obtain ⟨a, vs, rfl, s1, r1⟩ := hy
    cases (show u' = .ref a from ru)
    obtain ⟨its, vr1, t1, z1⟩ := I.tuple (hK ▸ seqT_mono sr.sub s1)
    have l1 : its.length = ds.length := by rw [← vr1.length, r1.length]
    refine in_tupJ (fun i s' => i ≤ ds.length ∧ (∃ F' as' H', Ext F as F' as' ∧ SR g F' as' μ H' ∧ Inv X pins σ H' s') ∧ inL (eqI eqm) x (ds.drop i) = some b) t1 (fun i h1 s' hI => ?_) (fun s' hI => ?_) ⟨Nat.zero_le _, ⟨F, as, H, .refl, sr, I⟩, e⟩
    · obtain ⟨hi, ⟨F1, as1, H1, x1, sr1, I1⟩, hin⟩ := hI
      have k0 : i < its.length := by simpa using h1
      have k1 : i < ds.length := l1 ▸ k0
      rw [List.drop_eq_getElem_cons k1] at hin
      obtain ⟨p, hp, rp⟩ := r1.get (List.getElem?_eq_getElem k1)
      obtain ⟨p', hp', rp'⟩ := vr1.get hp
      have e2 : its.toArray[i] = p' := by
        have : its[i]? = some its.toArray[i] := by
          rw [List.getElem?_eq_getElem k0] <;> simp
        rw [this] at hp'
        simpa using hp'
      rw [e2]
      rcases inL_turn hin with ⟨hq, rfl⟩ | ⟨hq, hrest⟩
      · refine wpAny_mono (eqI_run (A := X.A.in1) c E En (room.in1) rfl gd hq sr1 (rp.mono x1.1) (hx.mono x1.1) rp' rv I1) (fun r s2 z => ?_) fun _ _ z => z
        obtain ⟨rfl, F', as', H', x', sr', I'⟩ := z
        exact .inr ⟨rfl, .bl true, H', I', rfl, kk F' as' H' (x1.trans x') sr'⟩
      · refine wpAny_mono (eqI_run (A := X.A.in1) c E En (room.in1) rfl gd hq sr1 (rp.mono x1.1) (hx.mono x1.1) rp' rv I1) (fun r s2 z => ?_) fun _ _ z => z
        obtain ⟨rfl, F', as', H', x', sr', I'⟩ := z
        exact .inl ⟨rfl, k1, ⟨F', as', H', x1.trans x', sr', I'⟩, hrest⟩
    · obtain ⟨hi, ⟨F1, as1, H1, x1, sr1, I1⟩, hin⟩ := hI
      rw [List.drop_of_length_le (by rw [List.size_toArray, l1]; exact Nat.le_refl _)] at hin
      cases hin
      exact ⟨.bl false, H1, I1, rfl, kk F1 as1 H1 x1 sr1⟩
  · cases e
end
def finVK (μ : Sto) (o : Option Bool) (e : Option R) : Option R := match o with
  | some b => some (.ok (.val (.bl b)), μ)
  | none => e
theorem mOpA_ap {opA : D → D → Option Bool} {dop : D → D → Option S} {a b : ME} {ρ : En} {μ : Sto} : mOpA opA dop a b ρ μ = andThen (a ρ μ) fun s1 μ1 => andThen (b ρ μ1) fun s2 μ2 => finV opA dop μ2 (rt s1) (rt s2) := Eq.trans rfl rfl
theorem finV_val {opA : D → D → Option Bool} {dop : D → D → Option S} {μ : Sto} {x y : D} : finV opA dop μ (.val x) (.val y) = finVK μ (opA x y) (fin2 dop μ (.val x) (.val y)) := by
  unfold finV finVK
  rfl
theorem finVK_some {μ : Sto} {b : Bool} {e : Option R} : finVK μ (some b) e = some (.ok (.val (.bl b)), μ) := Eq.trans rfl rfl
theorem finVK_none {μ : Sto} {e : Option R} : finVK μ none e = e := Eq.trans rfl rfl
end Sz

set_option Elab.async false
set_option linter.all false
set_option maxRecDepth 100000
set_option maxHeartbeats 4000000
/-! Sz ZA: a text taken no times or once. -/
namespace Sz
open PySem PySem.Spec L2
def dMulT : D → D → Option S
  | .str a, .int k => if k = 0 then some (.val (.str Str.empty)) else if k = 1 then some (.val (.str a)) else none
  | x, y => dMul x y
section
variable {g : G} {X : Cx}
theorem ok_mulT : OpOk g X (binaryOp .Mult) dMulT := by
  intro x y s F as μ H v u Q e sr hx hy k
  unfold dMulT at e
  split at e
  · rename_i a i
    intro pins st σ v' u' I rv ru
    cases vr_str hx
    cases vr_int hy
    obtain ⟨tk, rfl⟩ := (show ∃ tk, v' = .str a tk from rv)
    obtain ⟨tk2, rfl⟩ := (show ∃ tk, u' = .int i tk from ru)
    split at e
    · rename_i hz
      cases e
      subst hz
      refine PySem.SB.mul (n := 0) ⟨by decide, fun h => absurd (show (0 : Int) < 1 by decide) h, fun h => absurd (show (0 : Int) < 1 by decide) h⟩ fun t' kk => ?_
      exact ⟨.str Str.empty, H, I.tok kk, ⟨t', rfl⟩, k F as _ H .refl sr (show Rep g F (.str _) _ by unfold Rep; rfl)⟩
    · split at e
      · rename_i hz
        cases e
        subst hz
        refine PySem.SB.mul (n := 1) ⟨by decide, fun _ h => absurd h (by simp), fun _ h => absurd h (by simp)⟩ fun t' kk => ?_
        exact ⟨.str a, H, I.tok kk, ⟨t', rfl⟩, k F as _ H .refl sr (show Rep g F (.str _) _ by unfold Rep; rfl)⟩
      · cases e
  · exact ok_mul _ _ s F as μ H v u Q e sr hx hy k
end
theorem mulT0 {a : Str} : dMulT (.str a) (.int 0) = some (.val (.str Str.empty)) := rfl
theorem mulT1 {a : Str} : dMulT (.str a) (.int 1) = some (.val (.str a)) := rfl
/-! ### str of truths and texts -/
def bStr2 (op : List D → Option S) : List D → Option S
  | [.bl b] => some (.val (.str (if b = true then "True" else "False")))
  | [.str a] => some (.val (.str a))
  | xs => op xs
section
variable {g : G} {X : Cx}
theorem co_str2 {op : List D → Option S} (h : CallOk g X (.type "str") op) : CallOk g X (.type "str") (bStr2 op) := by
  intro xs s F as μ H vs Q e sr hx k
  unfold bStr2 at e
  split at e
  · rename_i b
    cases e
    obtain ⟨v, rfl, hv⟩ := vrs1 hx
    obtain rfl := (flat_vr (u := .bl b) rfl hv).1
    intro pins st σ us I r
    obtain ⟨u, rfl, hu⟩ := vals1 r
    cases (show u = .bool b from hu)
    exact PySem.P.str_of_bool ⟨.str _, H, I.tok _, ⟨_, rfl⟩, k F as _ H .refl sr (show Rep g F (.str _) _ by unfold Rep; rfl)⟩
  · rename_i a
    cases e
    obtain ⟨v, rfl, hv⟩ := vrs1 hx
    cases vr_str hv
    exact cc SkE.call_str_str ⟨_, rfl, k F as _ H .refl sr (show Rep g F (.str _) _ by unfold Rep; rfl)⟩
  · exact h _ s F as μ H vs Q e sr hx k
end
theorem str2_b {op : List D → Option S} {b : Bool} : bStr2 op [.bl b] = some (.val (.str (if b = true then "True" else "False"))) := rfl
theorem str2_s {op : List D → Option S} {a : Str} : bStr2 op [.str a] = some (.val (.str a)) := rfl
theorem str2_i {op : List D → Option S} {i : Int} : bStr2 op [.int i] = op [.int i] := rfl
theorem str2_o {op : List D → Option S} {c : Nat} {fs : List D} : bStr2 op [.obj c fs] = op [.obj c fs] := rfl
end Sz

set_option Elab.async false
set_option linter.all false
set_option maxRecDepth 100000
set_option maxHeartbeats 4000000
/-! Sz ZB: try/except; what is caught is tracked from the catch on. -/
namespace Sz
open PySem PySem.Spec PyProof.Rows L2
/-- an exception that is told no more: the object as it stands -/
def exO (a : Addr) (oe : Obj) : HO := .ext fun h => h.get? a = some oe
section
variable {X : Cx} {pins : List (Addr × Obj)} {σ : L2.St} {H : Hp} {s : Shared}
theorem inv_track {a : Addr} {oe : Obj} {vs : Array Value} (I : Inv X pins σ H s) (h0 : X.s_0.heap.get? a = none) (he : s.heap.get? a = some oe) (hd : oe.data = .fields vs) (na : H a = none) (nL : a ≠ X.env.locals) (np : ∀ p ∈ X.pn ++ pins, p.1 ≠ a) : Inv X pins σ (upd H a (exO a oe)) s := by
  refine ⟨I.ok, I.os, I.bare, ⟨I.base.keep, I.base.slot, fun b o e n hx => ?_, I.base.there, fun b xs e => ?_, fun b o u e => ?_, fun b ps e => ?_⟩, I.loc, I.cell, ?_, fun x c e => ?_, fun p hp => ?_, fun b u e => ?_, I.len⟩
  · rw [upd_ne (fun z => by rw [z, h0] at e; cases e)]
    exact I.base.free b o e n hx
  · have q := I.base.tups b xs e
    rw [upd_ne (ne_of_none q na)]
    exact q
  · have q := I.base.frzs b o u e
    rw [upd_ne (ne_of_none q na)]
    exact q
  · obtain ⟨more, q⟩ := I.base.tbls b ps e
    exact ⟨more, by rw [upd_ne (ne_of_none q na)]; exact q⟩
  · rw [upd_ne (Ne.symm nL)]
    exact I.free
  · obtain ⟨v, z⟩ := I.cell x c e
    have nc : c ≠ a := fun q => by
      subst q
      obtain ⟨o, e1, e2⟩ := z
      rw [he] at e1
      cases e1
      rw [hd] at e2
      cases e2
    rw [upd_ne nc]
    exact I.freeC x c e
  · obtain ⟨e, n, ne, nf, d⟩ := I.pin p hp
    refine ⟨e, ?_, ne, nf, d⟩
    rw [upd_ne (np p hp)]
    exact n
  · by_cases hb : b = a
    · subst hb
      rw [upd_same] at e
      cases e
      exact ⟨he, ⟨oe, he⟩, fun h1 h2 p k => k oe p⟩
    · rw [upd_ne hb] at e
      exact (I.hok b u e).stay (fun _ _ _ q => q) (fun c q => by rw [upd_ne (ne_of_none q na)]; exact q) fun c xs q => by rw [upd_ne (ne_of_none q na)]; exact q
theorem inv_suiteT (I : Inv X pins σ H s) (a : Addr) : Inv (X.suite a (X.pn ++ pins)) [] σ H s :=
  ⟨I.ok.suite _ _, I.os, I.bare, I.base, I.loc, I.cell, I.free, I.freeC, fun p hp => I.pin p (by rw [List.append_nil] at hp; exact hp), I.hok, I.len⟩
theorem inv_unsuiteT {a : Addr} {pn' : List (Addr × Obj)} (I : Inv (X.suite a (X.pn ++ pins)) pn' σ H s) (ok : X.Ok) : Inv X pins σ H s :=
  ⟨ok, I.os, I.bare, I.base, I.loc, I.cell, I.free, I.freeC, fun p hp => I.pin p (List.mem_append_left _ hp), I.hok, I.len⟩
end
/-- a clause: its class, its name's slot, what its suite wishes -/
structure Cl where
  c : Value
  i : Option Nat
  ts : Addr → TS
def setO (σ : L2.St) : Option Nat → Option V → L2.St
  | none, _ => σ
  | some i, v => σ.set i v
/-- what the clauses wish of an exception of the body -/
def wCls (K : PySem.W.Frag) (Wout : WX) (D : Ends) : List Cl → WX
  | [] => Wout
  | l :: ls => fun cls d σ H => ∃ b, PySem.W.exmOne K cls l.c = some b ∧
      (b = true → ∀ a oe, H a = none → oe.cls = cls → oe.dict = d → (∃ vs, oe.data = .fields vs) →
        l.ts a { nx := fun σ' H' => D.nx (setO σ' l.i none) H', rt := D.rt, bk := fun σ' H' => D.bk (setO σ' l.i none) H', ct := fun σ' H' => D.ct (setO σ' l.i none) H' } (setO σ l.i (some (.ref a))) (upd H a (exO a oe))) ∧
      (b = false → wCls K Wout D ls cls d σ H)
inductive ClsOk (X : Cx) : List ExceptHandler → List Cl → Prop
  | nil : ClsOk X [] []
  | anon {x : Str} {c : Value} {ts : Addr → TS} {b₀ : Stmt} {suite : List Stmt} {np pos' : Pos} {hds : List ExceptHandler} {l : List Cl} (hc : Names X x c)
      (hsu : ∀ (a : Addr) (pn : List (Addr × Obj)), PSs (X.suite a pn) (b₀ :: suite) (ts a)) (r : ClsOk X hds l) :
      ClsOk X (.ExceptHandler (some (.Name x np)) none (b₀ :: suite) pos' :: hds) (⟨c, none, ts⟩ :: l)
  | name {x n : Str} {c : Value} {i : Nat} {ts : Addr → TS} {b₀ : Stmt} {suite : List Stmt} {np pos' : Pos} {hds : List ExceptHandler} {l : List Cl} (hc : Names X x c) (hi : X.N[i]? = some n) (hln : X.env.kindOf n = some .local)
      (hsu : ∀ (a : Addr) (pn : List (Addr × Obj)), PSs (X.suite a pn) (b₀ :: suite) (ts a)) (r : ClsOk X hds l) :
      ClsOk X (.ExceptHandler (some (.Name x np)) (some n) (b₀ :: suite) pos' :: hds) (⟨c, some i, ts⟩ :: l)
section
variable {X : Cx} {body : List Stmt} {h₀ : ExceptHandler} {hds : List ExceptHandler} {l : List Cl} {pos : Pos} {tb : WX → TS} {Wout : WX}
theorem ps_tryT (hs : X.stack = X.env :: X.outer) (hf : X.env.frame = some X.env.locals) (hN : X.N.Nodup) (hex : X.ex = []) (tk : Takes X Wout)
    (hb : ∀ (W : WX) (pn : List (Addr × Obj)) (xe : Value → Shared → Prop), Takes (X.tr pn xe) W → PassesOwn (model X.prog X.w) X.A X.env xe → PSs (X.tr pn xe) body (tb W))
    (hh : ClsOk X (h₀ :: hds) l) : PS X (.Try body (h₀ :: hds) [] [] pos) (fun D σ H => tb (wCls X.K Wout D l) D σ H) := by
  refine ⟨fun pins s σ H D I h => ?_⟩
  have ok := I.ok
  have hfr : X.A.frames = some (X.env :: X.outer) := by rw [ok.frames, hs]
  refine wpAny_Try_except ?_
  refine wpAny_mono ((hb (wCls X.K Wout D l) (X.pn ++ pins) (fun e s₁ => wpAny (model X.prog X.w) X.A (noteFrame e X.env) (fun _ s₂ => wpAny (model X.prog X.w) X.A (setFlight e none) (fun _ s₃ =>
    wpAny (model X.prog X.w) X.A (handleBy e X.env (h₀ :: hds)) (SP X pins D) X.xe s₃) X.xe s₂) X.xe s₁) (fun u s' xx => ?_) PassesOwn.looking).run [] s σ H D (I.toTry _) h) (fun f s1 hsp => ?_) (fun e s1 he => he)
  · -- the catch
    obtain ⟨a, B, sI, pins', σ', H', cls, d, rfl, J', nb, up, sky, na, os, ag, w⟩ := xx
    have J : Inv X pins σ' H' sI := J'.ofTry ok
    have sky' : Sky B (X.env :: X.outer) a (Zc cls d) X.env.locals s'.heap := by rw [← hs]; exact sky
    show wpAny (model X.prog X.w) X.A (noteFrame (.ref a) X.env) _ _ _
    refine Sky.land Zc.steady hfr hf sky' fun h3 fl3 up3 => ?_
    have J3 : Inv X pins σ' H' { s' with heap := h3 } := J.landed nb fl3.1 (up.trans up3) os ag
    obtain ⟨oe3, vs3, he3, hz3, hd3⟩ := fl3.there
    have notFr : ∀ {h : Heap} {o : Obj} {vs : Array Value}, h.FunFrames B (X.env :: X.outer) → h.get? a = some o → o.data = .fields vs → a ∉ frs (X.env :: X.outer) := fun {h o vs} ff e dd hm => by
      obtain ⟨_, o', e', hnf⟩ := ff.mem hm
      rw [e] at e'; cases e'
      exact hnf _ dd
    have nfr := notFr fl3.2.2.1 he3 hd3
    have nL : a ≠ X.env.locals := fun z => nfr (List.mem_filterMap.mpr ⟨X.env, List.mem_cons_self, by rw [hf, z]⟩)
    have nF : a ∉ X.fs := fun hm => by
      obtain ⟨e, he, q⟩ := List.mem_filterMap.mp hm
      exact nfr (List.mem_filterMap.mpr ⟨e, List.mem_cons_of_mem _ he, q⟩)
    have nI : sI.heap.get? a = none := by
      cases q : sI.heap.get? a with
      | none => rfl
      | some o =>
        have := nb a o q (by rw [hs]; exact nfr)
        rw [fl3.2.1] at this
        cases this
    have n0 : X.s_0.heap.get? a = none := by
      cases q : X.s_0.heap.get? a with
      | none => rfl
      | some o =>
        obtain ⟨o', e⟩ := J.base.there a o q (by rw [hex]; exact fun z => nomatch z)
        rw [nI] at e
        cases e
    have np : ∀ p ∈ X.pn ++ pins, p.1 ≠ a := fun p hp z => by
      have e := (J.pin p hp).1
      rw [z, nI] at e
      cases e
    have S3 := J3.suite he3 hd3 na nL nF
    have LT : PySem.W.Looks (model X.prog X.w) h3 (typeOf (.ref a)) cls := fun A Q E s k q => wpAny_typeOf_ref (k _ _ he3) (by rw [hz3.1]; exact q)
    have test : ∀ {x : Str} {np : Pos} {c : Value} {Q : Value → Shared → Prop} {E : Value → Shared → Prop}, Names X x c → Q c { s' with heap := h3 } → wpAny (model X.prog X.w) (X.A.mark (some (.ref a))) (eval (.Name x np) X.env) Q E { s' with heap := h3 } := fun {x np c Q E} hc q => by
      obtain ⟨hg, hdbg, hm | ⟨hm, hv, hnn⟩⟩ := hc
      · exact ld_glob (X := X.suite a ((a, oe3) :: (X.pn ++ pins))) S3 hg hm q hdbg
      · exact ld_blt (X := X.suite a ((a, oe3) :: (X.pn ++ pins))) S3 hg hm hv q hnn hdbg
    have go : ∀ {hds' : List ExceptHandler} {l' : List Cl}, ClsOk X hds' l' → wCls X.K Wout D l' cls d σ' H' →
        wpAny (model X.prog X.w) X.A (handleBy (.ref a) X.env hds') (SP X pins D) X.xe { s' with heap := h3 } := by
      intro hds' l' hk
      induction hk with
      | nil =>
        intro w
        refine wpAny_handleBy_nil ?_
        obtain ⟨k1, k2, k3, oe, vs, T, oT, ts', he, hz, hd, h1, hr⟩ := id fl3
        unfold PySem.passOn
        refine wpAny_bind (wpAny_field he hd h1 ?_)
        rw [if_neg (show ¬ ((Value.ref T == Value.none) = true) from by simp)]
        have fin : wpAny (model X.prog X.w) X.A (setFlight (.ref a) X.env.frame) (fun _ s4 => wpAny (model X.prog X.w) X.A (throw (.ref a) : Sem Flow) (SP X pins D) X.xe s4) X.xe { s' with heap := h3 } := by
          rw [hf]
          refine HandSPX.setFlight_upZ fl3 fun h4 hh4 up4 => wpAny_throw (tk _ _ ?_)
          exact ⟨a, B, sI, pins, σ', H', cls, d, rfl, J, nb, (up.trans up3).trans up4, .inr (.inr (by rw [hs]; exact hh4)), na, os, ag, w⟩
        first
          | exact wpAny_bind (wpAny_pure (wpAny_bind fin))
          | exact wpAny_bind fin
      | @anon x c ts b₀ suite np' pos' hds2 l2 hc hsu r ih =>
        intro w
        obtain ⟨b, hb1, hyes, hno⟩ := w
        refine wpAny_handleBy_cons (codeAny_handlers_test ?_) (by intro q; cases q)
        refine test hc ((PySem.W.exm_one (M := model X.prog X.w) (J3.kIn) LT hb1).here ?_)
        cases b with
        | true =>
          refine codeAny_handlers_suite ?_
          refine HandSPX.lands_againZ fl3 fun h4 fl4 up4 => ?_
          have J4 : Inv X pins σ' H' { s' with heap := h4 } := J.landed nb fl4.1 ((up.trans up3).trans up4) os ag
          obtain ⟨oe4, vs4, he4, hz4, hd4⟩ := fl4.there
          have S4 := inv_suiteT (inv_track J4 n0 he4 hd4 na nL np) a
          refine wpAny_mono ((hsu a (X.pn ++ pins)).run [] _ _ _ _ S4 (hyes rfl a oe4 na hz4.1 hz4.2 ⟨_, hd4⟩)) (fun f s6 hsp => ?_) (fun _ _ z => False.elim z)
          cases f with
          | next =>
            obtain ⟨σ6, H6, S6, q6⟩ := hsp
            exact ⟨_, _, inv_unsuiteT S6 ok, q6⟩
          | brk =>
            obtain ⟨σ6, H6, S6, q6⟩ := hsp
            exact ⟨_, _, inv_unsuiteT S6 ok, q6⟩
          | cont =>
            obtain ⟨σ6, H6, S6, q6⟩ := hsp
            exact ⟨_, _, inv_unsuiteT S6 ok, q6⟩
          | ret u =>
            obtain ⟨v6, σ6, H6, S6, r6, q6⟩ := hsp
            exact ⟨_, _, _, inv_unsuiteT S6 ok, r6, q6⟩
        | false =>
          show wpAny _ X.A (handleBy (.ref a) X.env hds2) _ _ _
          exact ih (hno rfl)
      | @name x n c i ts b₀ suite np' pos' hds2 l2 hc hi hln hsu r ih =>
        intro w
        obtain ⟨b, hb1, hyes, hno⟩ := w
        refine wpAny_handleBy_cons (codeAny_handlers_test ?_) (by intro q; cases q)
        refine test hc ((PySem.W.exm_one (M := model X.prog X.w) (J3.kIn) LT hb1).here ?_)
        cases b with
        | true =>
          have hloc : Loc X.env.scope n := .inl hln
          refine codeAny_handlers_suite_as ?_
          refine HandSPX.lands_againZ fl3 fun h4 fl4 up4 => ?_
          have J4 : Inv X pins σ' H' { s' with heap := h4 } := J.landed nb fl4.1 ((up.trans up3).trans up4) os ag
          obtain ⟨oe4, vs4, he4, hz4, hd4⟩ := fl4.there
          have S4 := inv_suiteT (inv_track J4 n0 he4 hd4 na nL np) a
          refine store_ok (X := X.suite a (X.pn ++ pins)) (v := .ref a) S4 hN hi hloc rfl (fun s5 S5 => ?_) (.inr hln)
          refine wpAny_mono ((hsu a (X.pn ++ pins)).run [] s5 _ _ _ S5 (hyes rfl a oe4 na hz4.1 hz4.2 ⟨_, hd4⟩)) (fun f s6 hsp => ?_) (fun _ _ z => False.elim z)
          have end_ : ∀ {σ6 : L2.St} {H6 : Hp} {Q : Shared → Prop}, Inv (X.suite a (X.pn ++ pins)) [] σ6 H6 s6 → (∀ s7, Inv X pins (σ6.set i none) H6 s7 → Q s7) →
              wpAny (model X.prog X.w) X.A (do bindName X.env n .none; unbindBehindTheSuite X.env n pos') (fun _ s7 => Q s7) X.xe s6 := fun {σ6 H6 Q} S6 hq => gone_ok (inv_unsuiteT S6 ok) hN hi hln hq
          cases f with
          | next =>
            obtain ⟨σ6, H6, S6, q6⟩ := hsp
            exact end_ S6 fun s7 J7 => ⟨_, _, J7, q6⟩
          | brk =>
            obtain ⟨σ6, H6, S6, q6⟩ := hsp
            exact end_ S6 fun s7 J7 => ⟨_, _, J7, q6⟩
          | cont =>
            obtain ⟨σ6, H6, S6, q6⟩ := hsp
            exact end_ S6 fun s7 J7 => ⟨_, _, J7, q6⟩
          | ret u =>
            obtain ⟨v6, σ6, H6, S6, r6, q6⟩ := hsp
            exact end_ S6 fun s7 J7 => ⟨_, _, _, J7, r6, q6⟩
        | false =>
          show wpAny _ X.A (handleBy (.ref a) X.env hds2) _ _ _
          exact ih (hno rfl)
    exact go hh w
  · cases f with
    | next =>
      obtain ⟨σ', H', J', q⟩ := hsp
      exact wpAny_execs_nil ⟨σ', H', J'.ofTry ok, q⟩
    | brk =>
      obtain ⟨σ', H', J', q⟩ := hsp
      exact ⟨σ', H', J'.ofTry ok, q⟩
    | cont =>
      obtain ⟨σ', H', J', q⟩ := hsp
      exact ⟨σ', H', J'.ofTry ok, q⟩
    | ret u =>
      obtain ⟨v, σ', H', J', r, q⟩ := hsp
      exact ⟨v, σ', H', J'.ofTry ok, r, q⟩
end
end Sz

set_option Elab.async false
set_option linter.all false
set_option maxRecDepth 100000
set_option maxHeartbeats 4000000
/-! Sz ZC: try/except as a code. -/
namespace Sz
open PySem PySem.Spec PyProof.Rows L2
/-- a clause: its class, its name's slot, its suite -/
structure SCl where
  c : Nat
  i : Option Nat
  m : MS
def putE (ρ : En) : Option Nat → Option S → En
  | none, _ => ρ
  | some i, s => ρ.set i s
/-- the first clause that takes it; none: not known -/
def exSel (exm : Nat → Nat → Option Bool) (c : Nat) : List SCl → Option (Option SCl)
  | [] => some none
  | l :: ls => (match exm c l.c with
    | some true => some (some l)
    | some false => exSel exm c ls
    | none => none)
def clFin (l : SCl) : Option (Fl × En × Sto) → Option (Fl × En × Sto)
  | some (.ex _, _, _) => none
  | some (fl, ρ, μ) => some (fl, putE ρ l.i none, μ)
  | none => none
def tryK (exm : Nat → Nat → Option Bool) (ls : List SCl) : Option (Fl × En × Sto) → Option (Fl × En × Sto)
  | some (.ex (.own c fs), ρ, μ) => (match exSel exm c ls with
    | some (some l) => clFin l (l.m (putE ρ l.i (some (.val (.exc c fs)))) μ)
    | some none => some (.ex (.own c fs), ρ, μ)
    | none => none)
  | r => r
def sTry (exm : Nat → Nat → Option Bool) (b : MS) (ls : List SCl) : MS := fun ρ μ => tryK exm ls (b ρ μ)
structure ExmF (g : G) (exm : Nat → Nat → Option Bool) : Prop where
  ok : ∀ c c' b, exm c c' = some b → PySem.W.exmOne g.K (.ref (g.cad c)) (.ref (g.cad c')) = some b
section
variable {g : G} {P : Program} {w : World} {mg : Str → Option Value} {base : Heap} {k : Nat} {N : List Str} {sc : Scope} {own cm gb : Bool} {X : Cx} {W : WX}
theorem Ct.tr (c : Ct g P w mg base k N sc own cm gb X W) {W' : WX} {pn : List (Addr × Obj)} {xe : Value → Shared → Prop} (tk : Takes (X.tr pn xe) W') (po : PassesOwn (model X.prog X.w) X.A X.env xe) : Ct g P w mg base k N sc own cm gb (X.tr pn xe) W' :=
  ⟨c.hP, c.hw, c.hK, c.hmg, c.hb, c.hN, c.nd, c.kd, c.hsc, c.calm, c.gd, c.room, c.hu, c.stk, c.frm, tk, c.fn, fun _ _ => po, c.ex⟩
theorem Ct.suite (c : Ct g P w mg base k N sc own cm gb X W) (a : Addr) (pn : List (Addr × Obj)) : Ct g P w mg base k N sc own false gb (X.suite a pn) W0 :=
  ⟨c.hP, c.hw, c.hK, c.hmg, c.hb, c.hN, c.nd, c.kd, c.hsc, (fun h => by cases h), c.gd, (fun h => by cases h), c.hu, c.stk, c.frm, (by
    rintro u s' ⟨_, _, _, _, _, _, _, _, _, _, _, _, _, _, _, _, w⟩
    exact w.elim), c.fn, (fun _ h => by cases h), c.ex⟩
end
section
variable {g : G} {F H : Hp} {as : List Addr} {μ : Sto}
theorem freezeX {p : Addr} {o : HO} (r : SR g F as μ H) (hp : H p = some o) (fp : F p = none) (nl : ∀ vs, o ≠ .lst vs) (ni : ∀ C d fs, o ≠ .ins C d fs) : SR g (upd F p o) as μ H ∧ Ext F as (upd F p o) as ∧ upd F p o p = some o := by
  have s1 : Same F (upd F p o) := same_upd fp
  refine ⟨⟨fun b u e => ?_, r.len, fun k a c e1 e2 => ?_, r.nd, r.live⟩, ⟨s1, [], (List.append_nil _).symm⟩, upd_same⟩
  · by_cases hb : b = p
    · rw [hb, upd_same] at e; rw [hb, ← e]; exact hp
    · rw [upd_ne hb] at e; exact r.sub _ _ e
  · have x := r.cells k a c e1 e2
    cases c with
    | lst ds =>
      obtain ⟨f, vs, h, z⟩ := (show F a = none ∧ ∃ vs, H a = some (.lst vs) ∧ Reps g F ds vs from x)
      have na : a ≠ p := fun q => by
        rw [q, hp] at h
        cases h
        exact nl _ rfl
      exact ⟨by rw [upd_ne na]; exact f, vs, h, z.mono s1⟩
    | frz d => exact Rep.mono s1 (show Rep g F d (.ref a) from x)
    | ins c fs =>
      obtain ⟨f, dx, vs, h, l, z⟩ := (show F a = none ∧ ∃ dx vs, H a = some (.ins (g.cad c) dx ((fs.map (·.1)).zip vs)) ∧ vs.length = fs.length ∧ Reps g F (fs.map (·.2)) vs from x)
      have na : a ≠ p := fun q => by
        rw [q, hp] at h
        cases h
        exact ni _ _ _ rfl
      exact ⟨by rw [upd_ne na]; exact f, dx, vs, h, l, z.mono s1⟩
    | pot j ds =>
      obtain ⟨f, b, us, hb, h, z⟩ := (show F a = none ∧ ∃ b us, (as.take k)[j]? = some b ∧ H a = some (.lst (.ref b :: us)) ∧ Reps g F ds us from x)
      have na : a ≠ p := fun q => by
        rw [q, hp] at h
        cases h
        exact nl _ rfl
      exact ⟨by rw [upd_ne na]; exact f, b, us, hb, h, z.mono s1⟩
/-- what is caught, tracked and frozen -/
theorem caught {c : Nat} {fs : List D} {cls : Value} {d : Option Addr} {a : Addr} {oe : Obj} (sr : SR g F as μ H) (rx : RX g F H (.own c fs) cls d) (na : H a = none) (hc : oe.cls = cls) (hd : oe.dict = d) (hf : ∃ vs, oe.data = .fields vs) :
    ∃ F', Ext F as F' as ∧ SR g F' as μ (upd H a (exO a oe)) ∧ Rep g F' (.exc c fs) (.ref a) := by
  obtain ⟨h1, h2⟩ := (show cls = .ref (g.cad c) ∧ ((fs = [] ∧ d = none) ∨ ∃ a vs, fs ≠ [] ∧ d = some a ∧ H a = some (.xd ((g.fl c).zip vs)) ∧ vs.length = (g.fl c).length ∧ Reps g F fs vs) from rx)
  rcases h2 with ⟨rfl, rfl⟩ | ⟨dx, vs, hne, rfl, hx, hl, hr⟩
  · obtain ⟨r1, f1, n1⟩ := sr.loose (o := exO a oe) na
    obtain ⟨r2, x2, e2⟩ := r1.freeze (vs := []) upd_same f1 n1
    refine ⟨_, x2, r2, ?_⟩
    unfold Rep
    exact ⟨a, oe, a, [], rfl, e2, hc.trans h1, hf, (fun z => by rw [hd] at z; cases z), (fun _ => rfl), (fun _ => hd), Reps.nil⟩
  · have key : ∀ F1 : Hp, Ext F as F1 as → SR g F1 as μ H → F1 dx = some (.xd ((g.fl c).zip vs)) → ∃ F', Ext F as F' as ∧ SR g F' as μ (upd H a (exO a oe)) ∧ Rep g F' (.exc c fs) (.ref a) := fun F1 x1 s1 e1 => by
      obtain ⟨r1, f1, n1⟩ := s1.loose (o := exO a oe) na
      obtain ⟨r2, x2, e2⟩ := r1.freeze (vs := []) upd_same f1 n1
      refine ⟨_, x1.trans x2, r2, ?_⟩
      unfold Rep
      exact ⟨a, oe, dx, vs, rfl, e2, hc.trans h1, hf, (fun z => by
        rw [hd] at z
        cases z
        exact ⟨x2.1 _ _ e1, hl⟩), (fun z => (z hd).elim), (fun z => (hne z).elim), Reps.mono (x1.trans x2).1 hr⟩
    cases q : F dx with
    | some o =>
      have e := sr.sub _ _ q
      rw [hx] at e
      cases e
      exact key F .refl sr q
    | none =>
      obtain ⟨s1, x1, e1⟩ := freezeX sr hx q (fun _ z => by cases z) (fun _ _ _ z => by cases z)
      exact key _ x1 s1 e1
theorem putE_er {ρ : En} {σ : L2.St} {i : Option Nat} {s : S} {v : V} (h : ER g F as ρ σ) (r : RS g F as s v) : ER g F as (putE ρ i (some s)) (setO σ i (some v)) := by
  cases i with
  | none => exact h
  | some i => exact h.set r
theorem putE_none {ρ : En} {σ : L2.St} {i : Option Nat} (h : ER g F as ρ σ) : ER g F as (putE ρ i none) (setO σ i none) := by
  cases i with
  | none => exact h
  | some i =>
    refine ⟨by show (ρ.set i none).length ≤ (σ.set i none).length; rw [List.length_set, List.length_set]; exact h.len, fun j t q => ?_⟩
    have q : (ρ.set i none)[j]? = some (some t) := q
    show ∃ v, (σ.set i none)[j]? = some (some v) ∧ _
    by_cases e : j = i
    · subst e
      rw [List.getElem?_set_self'] at q
      cases z : ρ[j]? <;> rw [z] at q <;> cases q
    · rw [List.getElem?_set_ne (Ne.symm e)] at q ⊢
      exact h.at_ j t q
end
/-- the clauses and their codes -/
inductive HsOk (g : G) (P : Program) (w : World) (mg : Str → Option Value) (base : Heap) (k : Nat) (N : List Str) (sc : Scope) (gb : Bool) (X : Cx) : List ExceptHandler → List SCl → Prop
  | nil : HsOk g P w mg base k N sc gb X [] []
  | anon {x : Str} {c : Nat} {m : MS} {b₀ : Stmt} {suite : List Stmt} {np pos' : Pos} {hds : List ExceptHandler} {ls : List SCl} (hc : Names X x (.ref (g.cad c)))
      (hm : ∀ X W, Ct g P w mg base k N sc true false gb X W → SB g X W (b₀ :: suite) m) (r : HsOk g P w mg base k N sc gb X hds ls) :
      HsOk g P w mg base k N sc gb X (.ExceptHandler (some (.Name x np)) none (b₀ :: suite) pos' :: hds) (⟨c, none, m⟩ :: ls)
  | name {x n : Str} {c i : Nat} {m : MS} {b₀ : Stmt} {suite : List Stmt} {np pos' : Pos} {hds : List ExceptHandler} {ls : List SCl} (hc : Names X x (.ref (g.cad c))) (hl : locB N sc i n = true)
      (hm : ∀ X W, Ct g P w mg base k N sc true false gb X W → SB g X W (b₀ :: suite) m) (r : HsOk g P w mg base k N sc gb X hds ls) :
      HsOk g P w mg base k N sc gb X (.ExceptHandler (some (.Name x np)) (some n) (b₀ :: suite) pos' :: hds) (⟨c, some i, m⟩ :: ls)
section
variable {g : G} {P : Program} {w : World} {mg : Str → Option Value} {base : Heap} {k : Nat} {N : List Str} {sc : Scope} {gb : Bool} {X : Cx} {W : WX} {exm : Nat → Nat → Option Bool}
/-- a suite runs -/
theorem suite_wish {l : SCl} {c : Nat} {fs : List D} {ρ1 : En} {μ1 : Sto} {fl : Fl} {ρ' : En} {μ' : Sto} {F : Hp} {as : List Addr} {D : Ends} {suite : List Stmt} (cx : Ct g P w mg base k N sc true true gb X W)
    (hm : ∀ X W, Ct g P w mg base k N sc true false gb X W → SB g X W suite l.m) (h : clFin l (l.m (putE ρ1 l.i (some (.val (.exc c fs)))) μ1) = some (fl, ρ', μ')) (post : PostS g W F as D fl ρ' μ')
    {F' : Hp} {as' : List Addr} {σ' : L2.St} {cls : Value} {d : Option Addr} {H' : Hp} (x : Ext F as F' as') (sr : SR g F' as' μ1 H') (er : ER g F' as' ρ1 σ') (rx : RX g F' H' (.own c fs) cls d)
    (a : Addr) (oe : Obj) (na : H' a = none) (hc : oe.cls = cls) (hd : oe.dict = d) (hf : ∃ vs, oe.data = .fields vs) (pn : List (Addr × Obj)) :
    wpB (X.suite a pn) suite { nx := fun σ' H' => D.nx (setO σ' l.i none) H', rt := D.rt, bk := fun σ' H' => D.bk (setO σ' l.i none) H', ct := fun σ' H' => D.ct (setO σ' l.i none) H' } (setO σ' l.i (some (.ref a))) (upd H' a (exO a oe)) := by
  obtain ⟨F2, x2, sr2, rep⟩ := caught sr rx na hc hd hf
  have er2 : ER g F2 as' (putE ρ1 l.i (some (.val (.exc c fs)))) (setO σ' l.i (some (.ref a))) := putE_er (er.mono x2) rep
  cases hr : l.m (putE ρ1 l.i (some (.val (.exc c fs)))) μ1 with
  | none => rw [hr] at h; cases h
  | some z =>
    obtain ⟨fl2, ρ2, μ2⟩ := z
    rw [hr] at h
    refine (hm _ _ (cx.suite a pn)).run F2 as' _ μ1 _ _ _ fl2 ρ2 μ2 hr sr2 er2 ?_
    cases fl2 with
    | ex y => cases h
    | nx =>
      cases h
      exact fun F3 as3 σ3 H3 e s3 r3 => post F3 as3 _ H3 ((x.trans x2).trans e) s3 (putE_none r3)
    | bk =>
      cases h
      exact fun F3 as3 σ3 H3 e s3 r3 => post F3 as3 _ H3 ((x.trans x2).trans e) s3 (putE_none r3)
    | ct =>
      cases h
      exact fun F3 as3 σ3 H3 e s3 r3 => post F3 as3 _ H3 ((x.trans x2).trans e) s3 (putE_none r3)
    | rt s =>
      cases h
      exact fun F3 as3 v H3 e s3 r3 => post F3 as3 v H3 ((x.trans x2).trans e) s3 r3
theorem tryK_cons {l : SCl} {ls : List SCl} {c : Nat} {fs : List D} {ρ1 : En} {μ1 : Sto} {r : Fl × En × Sto} (h : tryK exm (l :: ls) (some (.ex (.own c fs), ρ1, μ1)) = some r) :
    (exm c l.c = some true ∧ clFin l (l.m (putE ρ1 l.i (some (.val (.exc c fs)))) μ1) = some r) ∨ (exm c l.c = some false ∧ tryK exm ls (some (.ex (.own c fs), ρ1, μ1)) = some r) := by
  unfold tryK at h
  dsimp only at h
  unfold exSel at h
  cases q : exm c l.c with
  | none => rw [q] at h; cases h
  | some b =>
    rw [q] at h
    cases b with
    | true => exact .inl ⟨rfl, h⟩
    | false => exact .inr ⟨rfl, h⟩
theorem hs_cls (cx : Ct g P w mg base k N sc true true gb X W) (xf : ExmF g exm) {hds : List ExceptHandler} {ls : List SCl} (h : HsOk g P w mg base k N sc gb X hds ls) :
    ∃ l : List Cl, ClsOk X hds l ∧ ∀ {c : Nat} {fs : List D} {ρ1 : En} {μ1 : Sto} {fl : Fl} {ρ' : En} {μ' : Sto} {F : Hp} {as : List Addr} {D : Ends}, tryK exm ls (some (.ex (.own c fs), ρ1, μ1)) = some (fl, ρ', μ') → PostS g W F as D fl ρ' μ' →
      ∀ F' as' σ' cls d H', Ext F as F' as' → SR g F' as' μ1 H' → ER g F' as' ρ1 σ' → RX g F' H' (.own c fs) cls d → wCls X.K W D l cls d σ' H' := by
  have hK : X.K = g.K := cx.hK
  induction h with
  | nil =>
    refine ⟨[], .nil, fun {c fs ρ1 μ1 fl ρ' μ' F as D} h post F' as' σ' cls d H' x sr er rx => ?_⟩
    cases h
    exact post F' as' σ' cls d H' x sr er rx
  | @anon x c0 m b₀ suite np pos' hds ls hc hm r ih =>
    obtain ⟨l, hl, ih⟩ := ih
    refine ⟨⟨.ref (g.cad c0), none, fun a D σ H => ∀ pn, wpB (X.suite a pn) (b₀ :: suite) D σ H⟩ :: l, .anon hc (fun a pn => ⟨fun pins s σ H D I h => h pn pins s I⟩) hl, fun {c fs ρ1 μ1 fl ρ' μ' F as D} h post F' as' σ' cls d H' x sr er rx => ?_⟩
    have hcls : cls = .ref (g.cad c) := rx.1
    rcases tryK_cons h with ⟨q, h⟩ | ⟨q, h⟩
    · refine ⟨true, by rw [hcls, hK]; exact xf.ok _ _ _ q, fun _ a oe na hc hd hf pn => ?_, fun z => by cases z⟩
      exact suite_wish cx (l := ⟨c0, none, m⟩) hm h post x sr er rx a oe na hc hd hf pn
    · exact ⟨false, by rw [hcls, hK]; exact xf.ok _ _ _ q, (fun z => by cases z), fun _ => ih h post F' as' σ' cls d H' x sr er rx⟩
  | @name x n c0 i m b₀ suite np pos' hds ls hc hlo hm r ih =>
    obtain ⟨l, hl, ih⟩ := ih
    obtain ⟨h1, h2⟩ := cx.loc1 hlo
    refine ⟨⟨.ref (g.cad c0), some i, fun a D σ H => ∀ pn, wpB (X.suite a pn) (b₀ :: suite) D σ H⟩ :: l, .name hc h1 h2 (fun a pn => ⟨fun pins s σ H D I h => h pn pins s I⟩) hl, fun {c fs ρ1 μ1 fl ρ' μ' F as D} h post F' as' σ' cls d H' x sr er rx => ?_⟩
    have hcls : cls = .ref (g.cad c) := rx.1
    rcases tryK_cons h with ⟨q, h⟩ | ⟨q, h⟩
    · refine ⟨true, by rw [hcls, hK]; exact xf.ok _ _ _ q, fun _ a oe na hc hd hf pn => ?_, fun z => by cases z⟩
      exact suite_wish cx (l := ⟨c0, some i, m⟩) hm h post x sr er rx a oe na hc hd hf pn
    · exact ⟨false, by rw [hcls, hK]; exact xf.ok _ _ _ q, (fun z => by cases z), fun _ => ih h post F' as' σ' cls d H' x sr er rx⟩
theorem Ct.try_ {body : List Stmt} {h₀ : ExceptHandler} {hds : List ExceptHandler} {pos : Pos} {mb : MS} {ls : List SCl} (cx : Ct g P w mg base k N sc true true gb X W) (xf : ExmF g exm)
    (hb : ∀ X W, Ct g P w mg base k N sc true true gb X W → SB g X W body mb) (hh : HsOk g P w mg base k N sc gb X (h₀ :: hds) ls) : SS g X W (.Try body (h₀ :: hds) [] [] pos) (sTry exm mb ls) := by
  obtain ⟨l, hl, wish⟩ := hs_cls cx xf hh
  refine ⟨fun F as ρ μ σ H D fl ρ' μ' h sr er post => wS (ps_tryT (tb := fun W' D σ H => ∀ (pn : List (Addr × Obj)) (xe : Value → Shared → Prop), Takes (X.tr pn xe) W' → PassesOwn (model X.prog X.w) X.A X.env xe → wpB (X.tr pn xe) body D σ H) (cx.stk rfl) (cx.frm rfl) cx.nd' (cx.ex rfl) cx.tk
    (fun W' pn xe tk po => ⟨fun pins s σ H D I h => h pn xe tk po pins s I⟩) hl) ?_⟩
  intro pn xe tk po
  unfold sTry at h
  cases hr : mb ρ μ with
  | none => rw [hr] at h; cases h
  | some z =>
    obtain ⟨fl1, ρ1, μ1⟩ := z
    rw [hr] at h
    refine (hb _ _ (cx.tr tk po)).run F as ρ μ σ H D fl1 ρ1 μ1 hr sr er ?_
    cases fl1 with
    | ex y =>
      obtain ⟨c, fs⟩ := y
      exact wish h post
    | nx => cases h; exact post
    | bk => cases h; exact post
    | ct => cases h; exact post
    | rt s => cases h; exact post
end
end Sz

set_option Elab.async false
set_option linter.all false
set_option maxRecDepth 100000
set_option maxHeartbeats 4000000
/-! Sz ZD: isinstance of what was caught, by one class or a tuple of them. -/
namespace Sz
open PySem PySem.Spec PyProof.Rows L2
/-- by one class -/
def isX (sub : Nat → Nat → Option Bool) (ty : Nat → String → Option Bool) (c : Nat) : D → Option Bool
  | .cls j => sub c j
  | .ty T => ty c T
  | _ => none
def isXs (sub : Nat → Nat → Option Bool) (ty : Nat → String → Option Bool) (c : Nat) : List D → Option Bool
  | [] => some false
  | d :: ds => (match isX sub ty c d with
    | some true => some true
    | some false => isXs sub ty c ds
    | none => none)
def bIsiX (sub : Nat → Nat → Option Bool) (ty : Nat → String → Option Bool) (op : List D → Option S) : List D → Option S
  | [.exc c [], .tup (d :: ds)] => (isXs sub ty c (d :: ds)).map fun b => .val (.bl b)
  | [.exc c [], k] => (isX sub ty c k).map fun b => .val (.bl b)
  | xs => op xs
/-- what the head must tell of the exceptions' classes -/
structure ExcF (g : G) (sub : Nat → Nat → Option Bool) (ty : Nat → String → Option Bool) : Prop where
  c : ∀ c j b, sub c j = some b → ExcC g.K (g.cad c) ∧ PySem.W.kitOne g.K (.ref (g.cad c)) (.ref (g.cad j)) = some b
  t : ∀ c T b, ty c T = some b → ExcC g.K (g.cad c) ∧ PySem.W.kitOne g.K (.ref (g.cad c)) (.type T) = some b
section
variable {g : G} {X : Cx} {sub : Nat → Nat → Option Bool} {ty : Nat → String → Option Bool}
theorem isX_kit (xf : ExcF g sub ty) {F : Hp} {c : Nat} {d : D} {b : Bool} {v : V} {u : Value} (h : isX sub ty c d = some b) (r : Rep g F d v) (ru : RelV v u) : ExcC g.K (g.cad c) ∧ PySem.W.kitOne g.K (.ref (g.cad c)) u = some b := by
  unfold isX at h
  split at h
  · unfold Rep at r
    subst r
    cases (show u = .ref _ from ru)
    exact xf.c _ _ _ h
  · unfold Rep at r
    subst r
    cases (show u = .type _ from ru)
    exact xf.t _ _ _ h
  · cases h
theorem isXs_kit (xf : ExcF g sub ty) {F : Hp} {c : Nat} (hc : ExcC g.K (g.cad c)) : ∀ {ds : List D} {b : Bool} {vs : List V} {us : List Value}, isXs sub ty c ds = some b → Reps g F ds vs → Vals vs us → PySem.W.kitAny g.K (.ref (g.cad c)) us = some b
  | [], b, vs, us, h, r, ru => by
    cases h
    rw [Reps.nil_iff.mp r] at ru
    cases ru
    rfl
  | d :: ds, b, vs, us, h, r, ru => by
    obtain ⟨v, r', rfl, e1, e2⟩ := Reps.cons_iff.mp r
    cases ru with
    | cons x xs =>
      unfold isXs at h
      cases q : isX sub ty c d with
      | none => rw [q] at h; cases h
      | some z =>
        rw [q] at h
        have k := (isX_kit xf q e1 x).2
        unfold PySem.W.kitAny
        rw [k]
        cases z with
        | true => cases h; rfl
        | false => exact isXs_kit xf hc h e2 xs
theorem isXs_some (xf : ExcF g sub ty) {c : Nat} {d : D} {ds : List D} {b : Bool} (h : isXs sub ty c (d :: ds) = some b) : ExcC g.K (g.cad c) := by
  unfold isXs at h
  cases q : isX sub ty c d with
  | none => rw [q] at h; cases h
  | some z =>
    unfold isX at q
    split at q
    · exact (xf.c _ _ _ q).1
    · exact (xf.t _ _ _ q).1
    · cases q
/-- what is caught, in the heap -/
theorem exc_inst {pins : List (Addr × Obj)} {σ : L2.St} {F H : Hp} {as : List Addr} {μ : Sto} {st : Shared} {c : Nat} {v : V} (sr : SR g F as μ H) (r : Rep g F (.exc c []) v) (I : Inv X pins σ H st) : ∃ a oe, v = .ref a ∧ PySem.W.InstAt st.heap a oe (g.cad c) none := by
  unfold Rep at r
  obtain ⟨a, oe, dx, vs, rfl, e2, e3, ⟨ws, e4⟩, e5, e6, e8, e7⟩ := r
  have h := I.hok a _ (sr.sub _ _ e2)
  have hget : st.heap.get? a = some oe := h.1
  have hd := e8 rfl
  refine ⟨a, oe, rfl, ?_⟩
  obtain ⟨oc, od, oda, osl⟩ := oe
  dsimp only at e3 e4 hd
  subst e3 e4 hd
  exact ⟨hget, rfl, rfl, trivial⟩
theorem co_isiX {op : List D → Option S} (hg : g.K = X.K) (xf : ExcF g sub ty) (ho : CallOk g X (.builtin "isinstance") op) : CallOk g X (.builtin "isinstance") (bIsiX sub ty op) := by
  intro xs s F as μ H vs Q e sr hx k
  unfold bIsiX at e
  split at e
  · rename_i c d0 ds
    obtain ⟨b, h, rfl⟩ := Option.map_eq_some_iff.mp e
    obtain ⟨v, u, rfl, h1, h2⟩ := vrs2 hx
    intro pins st σ us I r
    obtain ⟨a, oe, rfl, J⟩ := exc_inst sr (vr_rep (fun ds q => by cases q) h1) I
    have C := isXs_some xf h
    obtain ⟨v', u', rfl, rx, rt⟩ := vals2 r
    cases (show v' = .ref a from rx)
    · have h2' : Rep g F (.tup (d0 :: ds)) u := vr_rep (fun ds q => by cases q) h2
      unfold Rep at h2'
      obtain ⟨a2, ws, rfl, s1, r1⟩ := h2'
      cases (show u' = .ref a2 from rt)
      obtain ⟨its, v1, t1, z1⟩ := I.tuple (hg ▸ seqT_mono sr.sub s1)
      obtain ⟨⟨cls, dd, data, sl⟩, ho2, hc2, n, hd2⟩ := id t1
      simp only at hc2 hd2
      subst hc2 hd2
      have kk := isXs_kit xf C h r1 v1
      exact PySem.W.kia_tup (PySem.W.handS_kitx_exc (hg ▸ C.hg) (hg ▸ C.hk) (hg ▸ C.hs) (hg ▸ C.hd) (hg ▸ C.ha) (hg ▸ C.hn) (hg ▸ C.ht) (hg ▸ C.hm)) I.kIn J ho2 (hg ▸ kk) (fun z => nomatch z) fun tk => ⟨.bl b, H, I.kept (t' := tk) fun _ _ z => z, rfl, k F as _ H .refl sr ra_bl⟩
  · rename_i c d _
    obtain ⟨b, h, rfl⟩ := Option.map_eq_some_iff.mp e
    obtain ⟨v, u, rfl, h1, h2⟩ := vrs2 hx
    intro pins st σ us I r
    obtain ⟨a, oe, rfl, J⟩ := exc_inst sr (vr_rep (fun ds q => by cases q) h1) I
    obtain ⟨v', u', rfl, rx, rt⟩ := vals2 r
    cases (show v' = .ref a from rx)
    · have h2' : Rep g F d u := vr_rep (fun ds q => by rw [q] at h; cases h) h2
      obtain ⟨C, kk⟩ := isX_kit xf h h2' rt
      exact PySem.W.kia_one (PySem.W.handS_kitx_exc (hg ▸ C.hg) (hg ▸ C.hk) (hg ▸ C.hs) (hg ▸ C.hd) (hg ▸ C.ha) (hg ▸ C.hn) (hg ▸ C.ht) (hg ▸ C.hm)) I.kIn J (hg ▸ kk) (fun z => nomatch z) fun tk => ⟨.bl b, H, I.kept (t' := tk) fun _ _ z => z, rfl, k F as _ H .refl sr ra_bl⟩
  · exact ho _ s F as μ H vs Q e sr hx k
end
end Sz

set_option Elab.async false
set_option linter.all false
set_option maxRecDepth 100000
set_option maxHeartbeats 4000000
/-! Sz ZE: what the head tells of the exceptions' classes. -/
namespace Sz
open PySem PySem.Spec PyProof.Rows L2
/-- the built-in bases, told by number -/
def bmOf : Nat → List Value
  | 0 => [.type "ValueError", .type "Exception", .type "BaseException", .type "object"]
  | 1 => [.type "ZeroDivisionError", .type "ArithmeticError", .type "Exception", .type "BaseException", .type "object"]
  | 2 => [.type "LookupError", .type "Exception", .type "BaseException", .type "object"]
  | _ => [.type "IndexError", .type "LookupError", .type "Exception", .type "BaseException", .type "object"]
def newOf : Nat → String
  | 0 => "ValueError.__new__"
  | 1 => "ZeroDivisionError.__new__"
  | 2 => "LookupError.__new__"
  | _ => "IndexError.__new__"
theorem base_ok : ∀ b : Nat, ∃ B initId, ExcBaseFacts B (newOf b) initId (bmOf b)
  | 0 => ⟨_, _, PySem.F.excBase_ValueError⟩
  | 1 => ⟨_, _, PySem.F.excBase_ZeroDivisionError⟩
  | 2 => ⟨_, _, PySem.F.excBase_LookupError⟩
  | _ + 3 => ⟨_, _, PySem.F.excBase_IndexError⟩
open PySem.W in
/-- one class: its name, its base -/
def xcB (K : Frag) (p : Str × Nat) : Bool :=
  (excIn K (He.ga K p.1) (bmOf p.2) (newOf p.2) && keepIn K (.ref (He.ga K p.1))) && ((subIn K (.ref (He.ga K p.1)) (.type "BaseException") == some true && typeIn K (.ref (He.ga K p.1)) == some (.type "type")) &&
  ((findIn K (.ref (He.ga K p.1)) "__getattribute__" == some (some (.builtin "BaseException.__getattribute__")) && findIn K (.ref (He.ga K p.1)) "__getattr__" == some none) &&
  ((hasDictIn K (He.ga K p.1) && findIn K (.ref (He.ga K p.1)) "__class__" == some (some (.builtin "object.__class__"))) && mroIn K (He.ga K p.1) (.type "object") == some true)))
theorem lkp_mem {α β : Type} [BEq α] [LawfulBEq α] {k : α} {b : β} : ∀ {l : List (α × β)}, l.lookup k = some b → (k, b) ∈ l
  | [], h => by cases h
  | (x, y) :: l, h => by
    unfold List.lookup at h
    split at h
    · rename_i q
      cases h
      rw [beq_iff_eq.mp q]
      exact List.mem_cons_self
    · exact List.mem_cons_of_mem _ (lkp_mem h)
structure XTab where
  exs : List (Nat × (Str × Nat))
  exm : List ((Nat × Nat) × Bool)
  sub : List ((Nat × Nat) × Bool)
  ty : List ((Nat × String) × Bool)
def XTab.exmF (t : XTab) (c c' : Nat) : Option Bool := t.exm.lookup (c, c')
def XTab.subF (t : XTab) (c j : Nat) : Option Bool := if (t.exs.lookup c).isSome then t.sub.lookup (c, j) else none
def XTab.tyF (t : XTab) (c : Nat) (T : String) : Option Bool := if (t.exs.lookup c).isSome then t.ty.lookup (c, T) else none
open PySem.W in
def xtB (cls : List Str) (t : XTab) (K : Frag) : Bool :=
  ((specialIn K (.builtin "object.__class__") "__get__" == some (some (.builtin "getset_descriptor.__get__")) && takesIn K (.builtin "object.__class__") == some true) &&
  (t.exs.all fun p => xcB K p.2 && cls.getD p.1 "" == p.2.1)) &&
  ((t.exm.all fun p => exmOne K (.ref (He.ga K (cls.getD p.1.1 ""))) (.ref (He.ga K (cls.getD p.1.2 ""))) == some p.2) &&
  ((t.sub.all fun p => kitOne K (.ref (He.ga K (cls.getD p.1.1 ""))) (.ref (He.ga K (cls.getD p.1.2 ""))) == some p.2) &&
  (t.ty.all fun p => kitOne K (.ref (He.ga K (cls.getD p.1.1 ""))) (.type p.1.2) == some p.2)))
section
variable {cls fns : List Str} {fls : List (List Str)} {K : PySem.W.Frag} {t : XTab}
theorem xt_exc (h : xtB cls t K = true) {c : Nat} {p : Str × Nat} (hc : t.exs.lookup c = some p) : xcB K p = true ∧ cls.getD c "" = p.1 := by
  have h1 := List.all_eq_true.mp (He.ba (He.ba h).1).2 (c, p) (lkp_mem hc)
  exact ⟨(He.ba h1).1, beq_iff_eq.mp (He.ba h1).2⟩
theorem xt_xcf (h : xtB cls t K = true) {c : Nat} (hc : (t.exs.lookup c).isSome = true) : XcF (gOf cls fls K fns) K c := by
  obtain ⟨p, hp⟩ := Option.isSome_iff_exists.mp hc
  obtain ⟨h1, h2⟩ := xt_exc h hp
  obtain ⟨B, initId, fB⟩ := base_ok p.2
  unfold xcB at h1
  have e : (gOf cls fls K fns).cad c = He.ga K p.1 := by rw [← h2]; rfl
  refine ⟨⟨B, newOf p.2, initId, bmOf p.2, fB, ?_⟩, ?_, ?_, ?_⟩
  · rw [e]; exact (He.ba (He.ba h1).1).1
  · rw [e]; exact (He.ba (He.ba h1).1).2
  · rw [e]; exact beq_iff_eq.mp (He.ba (He.ba (He.ba h1).2).1).1
  · rw [e]; exact beq_iff_eq.mp (He.ba (He.ba (He.ba h1).2).1).2
theorem xt_ec (h : xtB cls t K = true) {c : Nat} (hc : (t.exs.lookup c).isSome = true) : ExcC K ((gOf cls fls K fns).cad c) := by
  obtain ⟨p, hp⟩ := Option.isSome_iff_exists.mp hc
  obtain ⟨h1, h2⟩ := xt_exc h hp
  unfold xcB at h1
  have e : (gOf cls fls K fns).cad c = He.ga K p.1 := by rw [← h2]; rfl
  have r := (He.ba (He.ba h1).2).2
  have k := (He.ba (He.ba h).1).1
  refine ⟨?_, ?_, ?_, ?_, ?_, beq_iff_eq.mp (He.ba k).1, beq_iff_eq.mp (He.ba k).2, ?_⟩
  · rw [e]; exact beq_iff_eq.mp (He.ba (He.ba r).1).1
  · rw [e]; exact beq_iff_eq.mp (He.ba (He.ba r).1).2
  · rw [e]; exact beq_iff_eq.mp (He.ba (He.ba (He.ba h1).2).1).1
  · rw [e]; exact (He.ba (He.ba (He.ba r).2).1).1
  · rw [e]; exact beq_iff_eq.mp (He.ba (He.ba (He.ba r).2).1).2
  · rw [e]; exact beq_iff_eq.mp (He.ba (He.ba r).2).2
theorem xt_exm (h : xtB cls t K = true) : ExmF (gOf cls fls K fns) t.exmF := ⟨fun c c' b e => beq_iff_eq.mp (List.all_eq_true.mp (He.ba (He.ba h).2).1 ((c, c'), b) (lkp_mem e))⟩
theorem xt_isi (h : xtB cls t K = true) : ExcF (gOf cls fls K fns) t.subF t.tyF := by
  refine ⟨fun c j b e => ?_, fun c T b e => ?_⟩
  · unfold XTab.subF at e
    split at e
    · rename_i q
      exact ⟨xt_ec h q, beq_iff_eq.mp (List.all_eq_true.mp (He.ba (He.ba (He.ba h).2).2).1 ((c, j), b) (lkp_mem e))⟩
    · cases e
  · unfold XTab.tyF at e
    split at e
    · rename_i q
      exact ⟨xt_ec h q, beq_iff_eq.mp (List.all_eq_true.mp (He.ba (He.ba (He.ba h).2).2).2 ((c, T), b) (lkp_mem e))⟩
    · cases e
end
section
variable {g : G} {P : Program} {w : World} {mg : Str → Option Value} {base : Heap} {k : Nat} {N : List Str} {sc : Scope} {own cm gb : Bool} {X : Cx} {W : WX} {frees globs : List Str}
/-- raise C("..") -/
theorem Ct.raise {c : Nat} {x m : Str} {j : Nat} {p p2 pos pos' : Pos} (cx : Ct g P w mg base k N sc own true gb X W) (T : Tb g mg frees globs) (xf : XcF g g.K c) (hg : glB sc x = true) (hf : globs.contains x = true) (hc : g.cad c = He.ga g.K x) :
    SS g X W (.Raise (some (.Call (.Name x p) [.Constant (.str m) j p2] [] pos)) none pos') (sRaise c) := by
  obtain ⟨g1, g2, g3⟩ := cx.gl hg
  refine ss_raise (cx.calm rfl) cx.tk (cx.K ▸ xf) g1 ?_ g2
  rw [cx.hmg, (T.gl x hf).1, hc]
theorem Ct.names {c : Nat} {x : Str} (cx : Ct g P w mg base k N sc own cm gb X W) (T : Tb g mg frees globs) (hg : glB sc x = true) (hf : globs.contains x = true) (hc : g.cad c = He.ga g.K x) : Names X x (.ref (g.cad c)) := by
  obtain ⟨g1, g2, g3⟩ := cx.gl hg
  exact ⟨g1, g2, .inl (by rw [cx.hmg, (T.gl x hf).1, hc])⟩
end
end Sz

set_option Elab.async false
set_option linter.all false
set_option maxRecDepth 100000
set_option maxHeartbeats 4000000
/-! Sz ZF: dict displays of constants, as mere things. -/
namespace Sz
open PySem PySem.Spec PyProof.Rows L2
def mDicK (ks : List Key) (ds : List D) : ME := fun ρ μ => some (.ok (.val (.dic ks ds)), μ)
section
variable {g : G} {X : Cx} {W : WX}
theorem rep_dic {F H : Hp} {as : List Addr} {μ : Sto} {p : Addr} {ks : List Key} {ds : List D} {vs : List V} (sr : SR g F as μ H) (hp : H p = none) (hr : Reps g F ds vs) (hl : vs.length = ks.length) :
    ∃ F', Ext F as F' as ∧ SR g F' as μ (upd H p (.dK (ks.zip vs))) ∧ Rep g F' (.dic ks ds) (.ref p) := by
  obtain ⟨r1, f1, n1⟩ := sr.loose (o := .dK (ks.zip vs)) hp
  obtain ⟨r2, x2, e2⟩ := r1.freeze (vs := []) upd_same f1 n1
  refine ⟨_, x2, r2, ?_⟩
  unfold Rep
  exact ⟨p, vs, rfl, e2, hl, hr.mono x2.1⟩
theorem se_dic0 {pos : Pos} : SE g X W (.Dict [] [] pos) (mDicK [] []) := by
  refine ⟨fun F as ρ μ σ H Q r μ' h sr er post => wE pe_dnewK ?_⟩
  cases h
  intro p hp
  obtain ⟨F', x, s, rep⟩ := rep_dic (ks := []) (vs := []) sr hp Reps.nil rfl
  exact post F' as _ _ x s rep
theorem se_dic1 {ke ve : Expr} {k : Key} {d : D} {u : V} {pos : Pos} (hk : PE X ke (fun σ H Q => Q (kV k) H)) (hv : PE X ve (fun σ H Q => Q u H)) (hd : ∀ F : Hp, Rep g F d u) : SE g X W (.Dict [some ke] [ve] pos) (mDicK [k] [d]) := by
  refine ⟨fun F as ρ μ σ H Q r μ' h sr er post => wE (pe_disp (pps_cons hk hv pps_nil) rfl rfl (by simp) (by show 1 ≤ 15; decide)) ?_⟩
  cases h
  intro p hp
  refine ⟨upd_same, [(k, u)], rfl, by show 1 ≤ 15; decide, ?_⟩
  rw [upd_upd]
  obtain ⟨F', x, s, rep⟩ := rep_dic (ks := [k]) (vs := [u]) sr hp (Reps.cons (hd F) Reps.nil) rfl
  exact post F' as _ _ x s rep
end
end Sz

set_option Elab.async false
set_option linter.all false
set_option maxRecDepth 100000
set_option maxHeartbeats 4000000
/-! Sz ZG: reckoning with try/except and raise. -/
namespace Sz
open PySem PySem.Spec L2
def tryX (exm : Nat → Nat → Option Bool) (c : Nat) (fs : List D) (ρ : En) (μ : Sto) : Option (Option SCl) → Option (Fl × En × Sto)
  | some (some l) => clFin l (l.m (putE ρ l.i (some (.val (.exc c fs)))) μ)
  | some none => some (.ex (.own c fs), ρ, μ)
  | none => none
def exSelK (o : Option Bool) (l : SCl) (r : Option (Option SCl)) : Option (Option SCl) := match o with
  | some true => some (some l)
  | some false => r
  | none => none
section
variable {exm : Nat → Nat → Option Bool} {b : MS} {ls : List SCl} {l : SCl} {ρ : En} {μ : Sto} {c d : Nat} {fs : List D} {s : S} {i : Option Nat} {m : MS} {r : Option (Option SCl)}
theorem sTry_ap : sTry exm b ls ρ μ = tryK exm ls (b ρ μ) := Eq.trans rfl rfl
theorem tryK_nx : tryK exm ls (some (.nx, ρ, μ)) = some (.nx, ρ, μ) := Eq.trans rfl rfl
theorem tryK_rt : tryK exm ls (some (.rt s, ρ, μ)) = some (.rt s, ρ, μ) := Eq.trans rfl rfl
theorem tryK_ex : tryK exm ls (some (.ex (.own c fs), ρ, μ)) = tryX exm c fs ρ μ (exSel exm c ls) := by
  unfold tryK tryX
  rfl
theorem exSel_nil : exSel exm c [] = some none := Eq.trans rfl rfl
theorem exSel_cons : exSel exm c (⟨d, i, m⟩ :: ls) = exSelK (exm c d) ⟨d, i, m⟩ (exSel exm c ls) := by
  conv => lhs; unfold exSel
  rfl
theorem exSelK_t : exSelK (some true) l r = some (some l) := Eq.trans rfl rfl
theorem exSelK_f : exSelK (some false) l r = r := Eq.trans rfl rfl
theorem tryX_cl : tryX exm c fs ρ μ (some (some ⟨d, i, m⟩)) = clFin ⟨d, i, m⟩ (m (putE ρ i (some (.val (.exc c fs)))) μ) := Eq.trans rfl rfl
theorem tryX_out : tryX exm c fs ρ μ (some none) = some (.ex (.own c fs), ρ, μ) := Eq.trans rfl rfl
theorem clFin_nx : clFin ⟨d, i, m⟩ (some (.nx, ρ, μ)) = some (.nx, putE ρ i none, μ) := Eq.trans rfl rfl
theorem clFin_rt : clFin ⟨d, i, m⟩ (some (.rt s, ρ, μ)) = some (.rt s, putE ρ i none, μ) := Eq.trans rfl rfl
theorem putE_some {j : Nat} {t : Option S} : putE ρ (some j) t = ρ.set j t := Eq.trans rfl rfl
theorem putE_non {t : Option S} : putE ρ none t = ρ := Eq.trans rfl rfl
theorem sRaise_ap : sRaise c ρ μ = some (.ex (.own c []), ρ, μ) := Eq.trans rfl rfl
theorem finM_err {mi : MkI} {k : Nat} {x : Ex} : finM mi k (some (.error x, μ)) = some (.error x, μ.take k) := Eq.trans rfl rfl
theorem mDicK_ap {ks : List Key} {ds : List D} : mDicK ks ds ρ μ = some (.ok (.val (.dic ks ds)), μ) := Eq.trans rfl rfl
end
end Sz

set_option Elab.async false
set_option linter.all false
set_option maxRecDepth 100000
set_option maxHeartbeats 4000000
/-! Sz ZH: a list whose first item is a list that changes (a pot). -/
namespace Sz
open PySem PySem.Spec PyProof.Rows L2
def finPot : List S → Sto → Option R
  | .cell j :: ss, μ => (match toDs μ ss with
    | some (ds, μ2) => if ds.length + 1 ≤ sizeLine then some (.ok (.pot (some j) [] ds), μ2) else none
    | none => none)
  | _, _ => none
def mPotL (ms : List ME) : ME := fun ρ μ => andThen (mArgs ms ρ μ) finPot
def potIx (μ : Sto) (s : S) (i : Int) : Option S := match s with
  | .cell k => (match μ[k]? with
    | some (.pot j ds) => if i = 0 then some (.cell j) else if 1 ≤ i then (ds[(i - 1).toNat]?).map .val else none
    | _ => none)
  | _ => none
def mPotIx (ma mb : ME) : ME := fun ρ μ => andThen (ma ρ μ) fun s1 μ1 => andThen (mb ρ μ1) fun s2 μ2 => match vw μ2 s2 with
  | some (.int i) => (match potIx μ2 (rt s1) i with
    | some s => some (.ok s, μ2)
    | none => none)
  | _ => none
section
variable {g : G} {X : Cx} {W : WX} {es : List Expr} {ms : List ME} {a b : Expr} {ma mb : ME} {pos : Pos}
theorem se_potl (ha : SA g X W es (mArgs ms)) : SE g X W (.List es pos) (mPotL ms) := by
  refine ⟨fun F as ρ μ σ H Q r μ' h sr er post => wE (pe_lst pa_wp) ?_⟩
  refine ha.then_ (show andThen _ _ = some (r, μ') from h) sr er (fun x e => by subst e; exact post) fun ss μ1 F1 as1 vs H1 h1 x1 sr1 er1 rs1 => ?_
  unfold finPot at h1
  split at h1
  · rename_i j ss'
    cases rs1 with
    | cons h0 t =>
      obtain ⟨b, hb, rfl⟩ := (show ∃ a, as1[j]? = some a ∧ _ = V.ref a from h0)
      split at h1
      · rename_i ds μ2 hd
        split at h1
        · rename_i hz
          cases h1
          obtain ⟨F2, x2, sr2, r2⟩ := toDs_rs sr1 t hd
          refine ⟨by rw [List.length_cons, r2.length]; exact hz, fun p hp => ?_⟩
          obtain ⟨sr3, f, n⟩ := sr2.loose (o := .lst _) hp
          exact post F2 as1 _ _ (x1.trans x2) sr3 ⟨p, b, _, rfl, upd_same, f, n, hb, r2⟩
        · cases h1
      · cases h1
  · cases h1
theorem se_potix (hg : g.K = X.K) (ha : SE g X W a ma) (hb : SE g X W b mb) (hs : notSlice b = true) : SE g X W (.Subscript a b pos) (mPotIx ma mb) := by
  refine ⟨fun F as ρ μ σ H Q r μ' h sr er post => wE (pe_ix ix_seq pe_wp pe_wp (plainIx hs)) ?_⟩
  refine ha.then_ (show andThen _ _ = some (r, μ') from h) sr er (fun x e => by subst e; exact post) fun s1 μ1 F1 as1 v1 H1 h1 x1 sr1 er1 ra1 => ?_
  obtain ⟨F1', x1', sr1', rs1⟩ := root_ok sr1 ra1
  refine hb.then_ h1 sr1' (er1.mono x1') (fun x e => by subst e; exact PErr.ext (x1.trans x1') post) fun s2 μ2 F2 as2 v2 H2 h2 x2 sr2 er2 ra2 => ?_
  split at h2
  · rename_i i hi
    split at h2
    · rename_i s hs2
      cases h2
      cases vr_int (view_ra sr2 ra2 hi)
      have rs2 := rs1.mono x2
      have fin : ∀ w, RA g F2 as2 H2 s w → Q w H2 := fun w q => post F2 as2 w H2 ((x1.trans x1').trans x2) sr2 q
      unfold potIx at hs2
      split at hs2
      · rename_i k hk
        rw [hk] at rs2
        obtain ⟨p, hp, rfl⟩ := (show ∃ p, as2[k]? = some p ∧ v1 = .ref p from rs2)
        split at hs2
        · rename_i j ds hc
          obtain ⟨fa, q, us, hq, hv, rv⟩ := sr2.cells _ _ _ hp hc
          have hq : as2[j]? = some q := by
            have hj : j < k := by
              by_cases z : j < k
              · exact z
              · rw [List.getElem?_take_eq_none (by omega)] at hq; cases hq
            rw [List.getElem?_take_of_lt hj] at hq
            exact hq
          split at hs2
          · rename_i h0
            subst h0
            cases hs2
            exact .inl ⟨p, _, _, .ref q, rfl, rfl, SqL.of hv, atI0, fin _ ⟨q, hq, rfl⟩⟩
          · split at hs2
            · rename_i h1i
              obtain ⟨d, e6, rfl⟩ := Option.map_eq_some_iff.mp hs2
              obtain ⟨w, h5, h6⟩ := rv.get e6
              refine .inl ⟨p, _, _, w, rfl, rfl, SqL.of hv, ?_, fin w h6⟩
              obtain ⟨n, rfl⟩ : ∃ n : Nat, i = ((n + 1 : Nat) : Int) := ⟨(i - 1).toNat, by omega⟩
              rw [atI_nat, List.getElem?_cons_succ]
              rw [show (((n + 1 : Nat) : Int) - 1).toNat = n by omega] at h5
              exact h5
            · cases hs2
        · cases hs2
      · cases hs2
    · cases h2
  · cases h2
end
/-! reckoning -/
theorem mPotL_ap {ms : List ME} {ρ : En} {μ : Sto} : mPotL ms ρ μ = andThen (mArgs ms ρ μ) finPot := Eq.trans rfl rfl
theorem finPot2 {j : Nat} {a b : D} {μ : Sto} : finPot [.cell j, .val a, .val b] μ = some (.ok (.pot (some j) [] [a, b]), μ) := by
  show (if 3 ≤ sizeLine then (some (Except.ok (S.pot (some j) [] [a, b]), μ) : Option R) else none) = _
  rw [if_pos (show 3 ≤ sizeLine by decide)]
theorem potIx_cell {k : Nat} {i : Int} {μ : Sto} {ma mb : ME} {ρ : En} {j : Nat} {ds : List D} (h1 : ma ρ μ = some (.ok (.cell k), μ)) (h2 : mb ρ μ = some (.ok (.val (.int i)), μ)) (h3 : μ[k]? = some (.pot j ds)) (h : i = 0) : mPotIx ma mb ρ μ = some (.ok (.cell j), μ) := by
  subst h
  unfold mPotIx
  rw [h1, andThen_ok, h2, andThen_ok]
  show (match potIx μ (.cell k) 0 with | some s => (some (Except.ok s, μ) : Option R) | none => none) = _
  unfold potIx
  dsimp only
  rw [h3]
  rfl
theorem potIx_val {k : Nat} {i : Int} {μ : Sto} {ma mb : ME} {ρ : En} {j n : Nat} {ds : List D} {d : D} (h1 : ma ρ μ = some (.ok (.cell k), μ)) (h2 : mb ρ μ = some (.ok (.val (.int i)), μ)) (h3 : μ[k]? = some (.pot j ds)) (h : i = (n : Int) + 1) (h4 : ds[n]? = some d) : mPotIx ma mb ρ μ = some (.ok (.val d), μ) := by
  subst h
  unfold mPotIx
  rw [h1, andThen_ok, h2, andThen_ok]
  show (match potIx μ (.cell k) ((n : Int) + 1) with | some s => (some (Except.ok s, μ) : Option R) | none => none) = _
  unfold potIx
  dsimp only
  rw [h3]
  dsimp only
  rw [if_neg (by omega), if_pos (by omega), show ((n : Int) + 1 - 1).toNat = n by omega, h4]
  rfl
theorem gSub_pot {o i : ME} {s : S} {ρ : En} {μ : Sto} {k j0 p : Nat} {j : Int} {ds : List D} {d : D} (hs : rt s = .val d) (ho : o ρ μ = some (.ok (.cell k), μ)) (hi : i ρ μ = some (.ok (.val (.int j)), μ)) (hc : μ[k]? = some (.pot j0 ds)) (hp : ixN (ds.length + 1) j = some (p + 1)) :
    gSubM o i s ρ μ = some (ρ, μ.set k (.pot j0 (ds.set p d))) := by
  unfold gSubM
  rw [hs]
  unfold toD
  dsimp only
  rw [ho]
  dsimp only
  rw [hi]
  dsimp only
  rw [show rt (.cell k) = .cell k from rfl, show vw μ (.val (.int j)) = some (.int j) from rfl]
  dsimp only
  rw [hc]
  dsimp only
  rw [hp]
theorem own_pot {is ds : List D} {μ : Sto} : own true (.pot none is ds) μ = (.cell (μ ++ [C.lst is]).length, μ ++ [C.lst is] ++ [C.pot μ.length ds]) := Eq.trans rfl rfl
theorem finR_pot {n j : Nat} {μ : Sto} {xs is ds : List D} (hj : n ≤ j) (h : μ[j]? = some (.lst is)) : finR n μ (.pot (some j) xs ds) = some (.ok (.pot none is ds), μ.take n) := by
  unfold finR
  dsimp only
  rw [if_neg (by omega), h]
end Sz

set_option Elab.async false
set_option linter.all false
set_option maxRecDepth 100000
set_option maxHeartbeats 4000000
/-! Sz ZI: exceptions of own classes whose __init__ calls an own base's and stores fields. -/
namespace Sz
open PySem PySem.Spec PyProof.Rows L2
/-- what the written part says of such a class over the built-in base of number b -/
structure OeC (K : PySem.W.Frag) (C : Addr) (b : Nat) : Prop where
  ini : PySem.W.excInitIn K C (bmOf b) (newOf b) = true
  ovr : PySem.W.excOver K C (bmOf b) = true
  hd : PySem.W.hasDictIn K C = true
  sa : PySem.W.findIn K (.ref C) "__setattr__" = some (some (.builtin "object.__setattr__"))
  exC : PySem.W.subIn K (.ref C) (.type "BaseException") = some true
  tyC : PySem.W.typeIn K (.ref C) = some (.type "type")
  kC : PySem.W.keepIn K (.ref C) = true
theorem stF : ∀ b : Nat, ∃ B, StoreFacts B (bmOf b) "object.__setattr__" "object"
  | 0 => ⟨_, PySem.F.store_ValueError⟩
  | 1 => ⟨_, PySem.F.store_ZeroDivisionError⟩
  | 2 => ⟨_, PySem.F.store_LookupError⟩
  | _ + 3 => ⟨_, PySem.F.store_IndexError⟩
def iniOf : Nat → String
  | 0 => "ValueError.__init__"
  | 1 => "ZeroDivisionError.__init__"
  | 2 => "LookupError.__init__"
  | _ => "IndexError.__init__"
theorem base_ini : ∀ b : Nat, ∃ B, ExcBaseFacts B (newOf b) (iniOf b) (bmOf b)
  | 0 => ⟨_, PySem.F.excBase_ValueError⟩
  | 1 => ⟨_, PySem.F.excBase_ZeroDivisionError⟩
  | 2 => ⟨_, PySem.F.excBase_LookupError⟩
  | _ + 3 => ⟨_, PySem.F.excBase_IndexError⟩

/-! ### stores -/
section
open Builtin Builtin.ObjectAttr
variable {prog : Program} {w : World} {A : Around} {E : Value → Shared → Prop} {R : Result → Shared → Prop} {hp : Heap} {g : Array GenState} {d : Drawn} {t : Nat} {os : OsState}
theorem oe_new {K : PySem.W.Frag} {b : Nat} {name : Str} {tk : Tok} {v : Value} {x C : Addr} {fv : Array Value} (T : OeC K C b) (X : K.In hp) (hx : hp.get? x = some { cls := .ref C, data := .fields fv }) (ha : PySem.W.takerIn K C name = some none)
    (hq : ∀ h' tk' dx, (∀ b o, b ≠ x → hp.get? b = some o → h'.get? b = some o) → hp.objs.size ≤ dx → dx ≠ x → h'.get? x = some { cls := .ref C, dict := some dx, data := .fields fv } →
      h'.Ns1 dx (fun y => if y = name then some v else none) → R (.ok (.ret .none)) ⟨h', g, d, tk', os⟩) :
    codeAny (model prog w) A (.call (.builtin "object.__setattr__") ⟨[.ref x, .str name tk, v], []⟩) R ⟨hp, g, d, t, os⟩ := by
  obtain ⟨B, SF⟩ := stF b
  have hxs : x ≠ hp.objs.size := Nat.ne_of_lt (Heap.lt_size hx)
  refine PySem.W.osa_openX (s := ⟨hp, g, d, t, os⟩) (od := none) SF X ⟨hx, rfl, rfl, trivial⟩ T.ovr ha fun bb => ?_
  obtain ⟨cd, hcd, hh⟩ := PySem.W.any_some T.hd
  obtain ⟨nm, bs, mro, ns, qn, hd, sn, sb, ab, col, del⟩ := cd
  dsimp only at hh
  subst hh
  have hcls : PySem.W.Looks (model prog w) hp (classData C) _ := PySem.W.looks_clsIn X hcd
  dsimp only
  unfold storeInOwnDict ownDictForStores
  repeat (first | with_reducible refine HandSPX.store_in_new ?_ ?_ | with_reducible refine wpAny_loadPart_at hx ?_ | with_reducible refine hcls.at ?_ | wp_step)
  · exact ⟨_, #[], _, (Heap.get?_update_ne _ _ _ _ hxs.symm).trans (Heap.get?_push_at rfl rfl), rfl, fun e he => absurd he (by simp), fun _ => rfl⟩
  · intro h' tk' hn' hs
    have hx₁ : (hp.push { cls := .type "dict", data := .dict #[] }).get? x = some { cls := .ref C, data := .fields fv } := Heap.get?_push_of_some _ hx
    refine hq h' tk' hp.objs.size (fun b o hb ho => ?_) (Nat.le_refl _) hxs.symm ?_ hn'
    · exact (hs.2 b (Nat.ne_of_lt (Heap.lt_size ho))).trans ((Heap.get?_update_ne _ _ _ _ hb).trans (Heap.get?_push_of_some _ ho))
    · exact (hs.2 x hxs).trans (Heap.get?_update_self _ hx₁ rfl)
theorem oe_old {K : PySem.W.Frag} {b : Nat} {name : Str} {tk : Tok} {v : Value} {x C dx : Addr} {fv : Array Value} {m0 : Str → Option Value} {nl : List Str} (T : OeC K C b) (X : K.In hp) (hx : hp.get? x = some { cls := .ref C, dict := some dx, data := .fields fv })
    (hns : hp.Ns1 dx m0) (hw : Within m0 nl) (hz : nl.length ≤ 1000) (ha : PySem.W.takerIn K C name = some none)
    (hq : ∀ h' tk', (∀ b o, b ≠ dx → hp.get? b = some o → h'.get? b = some o) → h'.Ns1 dx (fun y => if y = name then some v else m0 y) → R (.ok (.ret .none)) ⟨h', g, d, tk', os⟩) :
    codeAny (model prog w) A (.call (.builtin "object.__setattr__") ⟨[.ref x, .str name tk, v], []⟩) R ⟨hp, g, d, t, os⟩ := by
  obtain ⟨B, SF⟩ := stF b
  obtain ⟨oD, esD, epD, hoD, hdD, _⟩ := hns.count hw
  refine PySem.W.osa_openX (s := ⟨hp, g, d, t, os⟩) (od := some oD) SF X ⟨hx, rfl, rfl, hoD⟩ T.ovr ha fun bb => ?_
  obtain ⟨cd, hcd, hh⟩ := PySem.W.any_some T.hd
  obtain ⟨nm, bs, mro, ns, qn, hd, sn, sb, ab, col, del⟩ := cd
  dsimp only at hh
  subst hh
  have hcls : PySem.W.Looks (model prog w) hp (classData C) _ := PySem.W.looks_clsIn X hcd
  dsimp only
  unfold storeInOwnDict ownDictForStores
  repeat (first | with_reducible refine PySem.OEX.store_in_old hns hw hz ?_ | with_reducible refine wpAny_loadPart_at hx ?_ | with_reducible refine hcls.at ?_ | wp_step)
  intro h' tk' hn' hs
  exact hq h' tk' (fun b o hb ho => (hs.2 b hb).trans ho) hn'
end
section
variable {X : Cx} {pins : List (Addr × Obj)} {σ : L2.St} {H : Hp} {s : Shared} {a C dx : Addr} {f : Str} {y : V} {u : Value} {fs : List (Str × V)} {Q : Unit → Shared → Prop} {E : Value → Shared → Prop} {A : Around} {b : Nat}
theorem oeI_new (T : OeC X.K C b) (I : Inv X pins σ H s) (e : H a = some (exo a C none)) (hno : PySem.W.takerIn X.K C f = some none) (ry : RelV y u)
    (h : ∀ dx s', H dx = none → dx ≠ a → Inv X pins σ (upd (upd H dx (exd dx [(f, y)])) a (exo a C (some dx))) s' → Q () s') : wpAny (model X.prog X.w) A (setAttr (.ref a) f u) Q E s := by
  obtain ⟨t1, ho⟩ := exo_at I.hok e
  obtain ⟨hp, g, d, t, os⟩ := s
  refine PySem.W.set_plain I.kIn (ox := { cls := .ref C, dict := none, data := .fields #[.ref t1, .none, .none, .none, .bool false, .none] }) (od := none) ⟨ho, rfl, rfl, trivial⟩ T.sa ?_
  refine oe_new T I.kIn ho hno (fun h' tk' dx k dn dne hx hn => ?_)
  have hnd : H dx = none := I.hok.fresh dn
  have nd : ∀ {b : Addr} {o : Obj}, hp.get? b = some o → b ≠ dx := fun {b o} q => Nat.ne_of_lt (Nat.lt_of_lt_of_le (Heap.lt_size q) dn)
  have na : ∀ {b : Addr}, H b = none → b ≠ a := fun {b} n z => by
    rw [z, e] at n
    cases n
  have U : Un X.fs [] H (upd (upd H dx (exd dx [(f, y)])) a (exo a C (some dx))) hp h' := {
    keep := fun b o q n _ _ => k b o (na n) q
    slot := fun b o q n _ _ => ⟨o.slots, k b o (na n) q⟩
    free := fun b o q n _ => by rw [upd_ne (na n), upd_ne (nd q)]; exact n
    there := fun b o q _ => by
      by_cases hb : b = a
      · exact ⟨_, by rw [hb]; exact hx⟩
      · exact ⟨o, k b o hb q⟩
    tups := fun b xs q => by rw [upd_ne (at_ne e q exo_tup), upd_ne (ne_of_none q hnd)]; exact q
    frzs := fun b o v q => by rw [upd_ne (at_ne e q exo_frz), upd_ne (ne_of_none q hnd)]; exact q
    tbls := fun b ps q => ⟨#[], by rw [upd_ne (at_ne e q exo_tbl), upd_ne (ne_of_none q hnd), q]; simp⟩ }
  refine h dx _ hnd dne (I.un (t' := tk') U fun b o q => ?_)
  by_cases hb : b = a
  · subst hb
    rw [upd_same] at q
    cases q
    exact exo_ok hx
  · rw [upd_ne hb] at q
    by_cases hd : b = dx
    · subst hd
      rw [upd_same] at q
      cases q
      exact exd_ok hn (relO_put (fs := []) ry fun g => True.intro)
    · rw [upd_ne hd] at q
      exact (I.hok b o q).stay (fun c v hc z => k c v (by
          rcases hc with hc | hc
          · rw [hc]
            exact hb
          · exact at_ne e hc exo_own) z)
        (fun c hc => by rw [upd_ne (at_ne e hc exo_own), upd_ne (ne_of_none hc hnd)]; exact hc) (fun c xs hc => by rw [upd_ne (at_ne e hc exo_tup), upd_ne (ne_of_none hc hnd)]; exact hc)
theorem oeI_old (T : OeC X.K C b) (I : Inv X pins σ H s) (e : H a = some (exo a C (some dx))) (ed : H dx = some (exd dx fs)) (hl : fs.length ≤ 900) (hno : PySem.W.takerIn X.K C f = some none) (ry : RelV y u)
    (h : ∀ s', Inv X pins σ (upd H dx (exd dx ((f, y) :: fs))) s' → Q () s') : wpAny (model X.prog X.w) A (setAttr (.ref a) f u) Q E s := by
  obtain ⟨t1, ho⟩ := exo_at I.hok e
  obtain ⟨mA, hns, rel⟩ := exd_at I.hok ed
  have hw := within_of rel
  obtain ⟨hp, g, d, t, os⟩ := s
  obtain ⟨oD, _, _, hoD, _, _⟩ := hns.count hw
  refine PySem.W.set_plain I.kIn (ox := { cls := .ref C, dict := some dx, data := .fields #[.ref t1, .none, .none, .none, .bool false, .none] }) (od := some oD) ⟨ho, rfl, rfl, hoD⟩ T.sa ?_
  refine oe_old T I.kIn ho hns hw (by rw [List.length_map]; omega) hno (fun h' tk' k hn => ?_)
  have hd : ∃ o, h'.get? dx = some o := by
    obtain ⟨o, _, _, e', _⟩ := hn
    exact ⟨o, e'⟩
  exact h _ (I.write (t' := tk') (x := dx) (e := dx) (o := exd dx ((f, y) :: fs)) (by rw [ed]; exact True.intro) (.inl rfl) k hd (exd_ok hn (relO_put ry rel)))
theorem oeI_init {us : List Value} {Q : Value → Shared → Prop} (T : OeC X.K C b) (I : Inv X pins σ H s) (e : H a = some (exo a C none)) (hl : us.length ≤ sizeLine) (h : ∀ s', Inv X pins σ H s' → Q .none s') :
    wpAny (model X.prog X.w) A (call (.builtin (iniOf b)) (.ref a :: us)) Q E s := by
  obtain ⟨t1, ho⟩ := exo_at I.hok e
  obtain ⟨B, FB⟩ := base_ini b
  obtain ⟨hp, g, d, t, os⟩ := s
  obtain ⟨nm, N', qn, bs, bm, hdct, sn, sub, ab, col, dd, k0, k1, k2, k3, k5, hC, hT⟩ := PySem.W.excInit_of I.kIn T.ini
  refine wpAny_call (PySem.HandSPX.init_base FB hT hC ho hl fun h' t2 k hx => ?_)
  have J := I.write (t' := t) (x := a) (e := a) (o := exo a C none) (by rw [e]; exact True.intro) (.inl rfl) k ⟨_, hx⟩ (exo_ok hx)
  have eu : upd H a (exo a C none) = H := by
    funext b
    by_cases hb : b = a
    · rw [hb, upd_same, e]
    · rw [upd_ne hb]
  rw [eu] at J
  exact h _ J
end

/-! ### readings and rules -/
/-- an own class at CB, its __init__ the built-in base's -/
structure BiC (K : PySem.W.Frag) (CB : Addr) (b : Nat) : Prop where
  ga : PySem.W.specialIn K (.ref CB) "__getattribute__" = some (some (.builtin "type.__getattribute__"))
  rd : PySem.W.readsIn K CB (.type "type") = true
  fi : PySem.W.findCls K (.ref CB) (.type "type") "__init__" = some (.val (.builtin (iniOf b)))
def tIni (K : PySem.W.Frag) (b : Nat) (ta : TA) : TE := fun σ H Q => ta σ H fun vs H1 => ∃ (a C : Addr) (ws : List V), vs = .ref a :: ws ∧ ws.length ≤ 1000 ∧ OeC K C b ∧ H1 a = some (exo a C none) ∧ Q .non H1
def tOsf (K : PySem.W.Frag) (b : Nat) (f : Str) (to te : TE) : TS := fun D σ H => te σ H fun y H1 => to σ H1 fun x H2 => ∃ a C : Addr, x = .ref a ∧ OeC K C b ∧ PySem.W.takerIn K C f = some none ∧
  ((H2 a = some (exo a C none) ∧ ∀ dx, H2 dx = none → dx ≠ a → D.nx σ (upd (upd H2 dx (exd dx [(f, y)])) a (exo a C (some dx)))) ∨
    ∃ (dx : Addr) (fs : List (Str × V)), H2 a = some (exo a C (some dx)) ∧ H2 dx = some (exd dx fs) ∧ fs.length ≤ 900 ∧ D.nx σ (upd H2 dx (exd dx ((f, y) :: fs))))
theorem han_ini : ∀ b, PySem.W.handedIn (.builtin (iniOf b)) = true
  | 0 => by decide +kernel
  | 1 => by decide +kernel
  | 2 => by decide +kernel
  | _ + 3 => (show PySem.W.handedIn (.builtin "IndexError.__init__") = true by decide +kernel)
section
variable {X : Cx} {o e : Expr} {es : List Expr} {to te : TE} {ta : TA} {f x : Str} {p p' p1 p2 pos : Pos} {b : Nat} {CB : Addr}
theorem pe_ini (hg : Gl X x) (hm : X.mg x = some (.ref CB)) (hdb : (x == ("__debug__" : Str)) = false) (bi : BiC X.K CB b) (ha : PA X (e :: es) ta) (hst : (e :: es).all notStar = true) (hf : methForm p2 pos (e :: es) [] = true) :
    PE X (.Call (.Attribute (.Name x p1) "__init__" p2) (e :: es) [] pos) (tIni X.K b ta) := by
  refine ⟨fun pins s σ H Q I h => ?_⟩
  refine meth_tree (ks := []) rfl hst rfl hf (ld_glob I hg hm ?_ hdb)
  refine PySem.W.method_cls I.kIn bi.ga (PySem.W.cls_value I.kIn bi.rd bi.fi (han_ini b) ?_)
  show wpAny _ _ (callWith pos (Value.builtin (iniOf b)) [] (backTo pos (starEach (e :: es) X.env)) []) _ _ _
  rw [List.all_cons, Bool.and_eq_true] at hst
  refine PyProof.Rows.callWith_method1 (thn (ha.run pos pins _ σ H _ (I.tok _) h) fun us s1 ⟨vs, H1, I1, r1, a, C, ws, ev, hl, T, ea, q⟩ => ?_) (starEach_cons hst.1) (starEach_plain hst.2)
  subst ev
  cases r1 with
  | @cons _ u0 _ ur ra rw' =>
    obtain rfl : u0 = Value.ref a := ra
    have hlen : ur.length ≤ sizeLine := by
      rw [← Paired.length rw', sizeLine_eq]
      omega
    exact oeI_init T I1 ea hlen fun s' J => ⟨.non, H1, J, rfl, q⟩
theorem ps_osf (ho : PE X o to) (he : PE X e te) (hs : swapsWith e (some (.Attribute o f p')) pos.line X.env = pure false := by rfl) : PS X (.Assign [.Attribute o f p'] e pos) (tOsf X.K b f to te) := by
  refine ⟨fun pins s σ H D I h => ?_⟩
  refine plainObj_wpAny_Assign_Attribute (thn (he.run pins s σ H _ I h) fun v s1 ⟨y, H1, I1, r1, q1⟩ => thn (ho.run pins s1 σ H1 _ I1 q1) fun u s2 ⟨x, H2, I2, r2, a, C, ex, T, hno, q⟩ => ?_) hs
  subst ex
  obtain rfl : u = Value.ref a := r2
  rcases q with ⟨ea, q⟩ | ⟨dx, fs, ea, ed, hl, q⟩
  · exact oeI_new T I2 ea hno r1 fun dx s' n ne J => ⟨σ, _, J, q dx n ne⟩
  · exact oeI_old T I2 ea ed hl hno r1 fun s' J => ⟨σ, _, J, q⟩
end

/-! ### the def __init__(self, p, ..): Base.__init__(self, ".."); self.f = p; .. -/
/-- what it does to the object; fl: the fields in the order of the stores -/
def spX (C : Addr) (fl : List Str) : Sp := fun vs H Q _ => ∃ (a : Addr) (ys : List V), vs = .ref a :: ys ∧ ys.length = fl.length ∧ H a = some (exo a C none) ∧
  ∀ dx, H dx = none → dx ≠ a → Q .non (upd (upd H dx (exd dx (fl.zip ys).reverse)) a (exo a C (some dx)))
theorem upd_twice {H : Hp} {a d : Addr} {o1 o2 u : HO} (h : d ≠ a) : upd (upd (upd H d o1) a u) d o2 = upd (upd H d o2) a u := by
  funext b
  by_cases hd : b = d
  · subst hd
    rw [upd_same, upd_ne h, upd_same]
  · by_cases ha : b = a
    · subst ha
      rw [upd_ne hd, upd_same, upd_same]
    · rw [upd_ne hd, upd_ne ha, upd_ne hd, upd_ne ha, upd_ne hd]
section
variable {g : G} {P : Program} {w : World} {mg : Str → Option Value} {base : Heap} {k : Nat} {N : List Str} {sc : Scope} {own cm gb : Bool} {X : Cx} {W : WX} {frees globs : List Str}
theorem Ct.vis {i : Nat} {x : Str} (c : Ct g P w mg base k N sc own cm gb X W) (h : varB N sc i x = true) : X.N[i]? = some x ∧ Vis X.env.scope x ∧ (x == ("__debug__" : Str)) = false ∧ (x == ("__classdict__" : Str)) = false := by
  unfold varB at h
  simp only [Bool.and_eq_true, Bool.not_eq_true'] at h
  obtain ⟨h1, h2, h3, h4⟩ := h
  refine ⟨c.at h1, ?_, h3, h4⟩
  unfold Vis
  rw [c.hsc]
  unfold visB at h2
  split at h2
  · rename_i e; exact .inl e
  · rename_i e; exact .inr (.inl e)
  · rename_i e; exact .inr (.inr e)
  · cases h2
variable {b : Nat} {xb s0 q1 q2 f1 f2 m : Str} {j : Nat} {p1 p2 p3 p4 p5 p6 p7 p8 p9 p10 p11 p12 p13 p14 : Pos} {C : Addr} {np : Nat}
/-- what a body must do -/
def IniB (X : Cx) (C : Addr) (fl : List Str) (np : Nat) (body : List Stmt) : Prop := ∃ t, PSs X body t ∧ ∀ vs H Q E, spX C fl vs H Q E → t { nx := fun _ H' => Q .non H', rt := Q } (L2.start X.N vs) H
theorem st_at0 {N : List Str} {v : V} {vs : List V} : (L2.start N (v :: vs))[0]? = some (some v) := rfl
theorem st_at1 {N : List Str} {v u : V} {vs : List V} : (L2.start N (v :: u :: vs))[1]? = some (some u) := rfl
theorem st_at2 {N : List Str} {v u z : V} {vs : List V} : (L2.start N (v :: u :: z :: vs))[2]? = some (some z) := rfl
theorem ini1 (c : Ct g P w mg base k N sc own cm gb X W) (T : Tb g mg frees globs) (hb : glB sc xb = true) (hf : globs.contains xb = true) (bi : BiC g.K (He.ga g.K xb) b) (oe : OeC g.K C b) (h0 : varB N sc 0 s0 = true) (h1 : varB N sc 1 q1 = true) (ht : PySem.W.takerIn g.K C f1 = some none) (hw : methForm p2 p5 [.Name s0 p3, .Constant (.str m) j p4] [] = true) :
    IniB X C [f1] np [.Expr (.Call (.Attribute (.Name xb p1) "__init__" p2) [.Name s0 p3, .Constant (.str m) j p4] [] p5) p6, .Assign [.Attribute (.Name s0 p7) f1 p8] (.Name q1 p9) p10] := by
  obtain ⟨g1, g2, g3⟩ := c.gl hb
  obtain ⟨a1, a2, a3, a4⟩ := c.vis h0
  obtain ⟨b1, b2, b3, b4⟩ := c.vis h1
  have hm : X.mg xb = some (.ref (He.ga g.K xb)) := by rw [c.hmg]; exact (T.gl xb hf).1
  have bi' : BiC X.K (He.ga g.K xb) b := by rw [c.hK]; exact bi
  have oe' : OeC X.K C b := by rw [c.hK]; exact oe
  have ht' : PySem.W.takerIn X.K C f1 = some none := by rw [c.hK]; exact ht
  refine ⟨_, pss_cons (ps_expr (pe_ini g1 hm g2 bi' (pa_cons (pe_var a1 a2 a3 a4) (pa_cons pe_str pa_nil)) rfl hw)) (pss_one (ps_osf (b := b) (pe_var a1 a2 a3 a4) (pe_var b1 b2 b3 b4))), ?_⟩
  rintro vs H Q E ⟨a, ys, rfl, hl, ha, q⟩
  obtain ⟨y, rfl⟩ : ∃ y, ys = [y] := by
    cases ys with
    | nil => cases hl
    | cons y r => cases r with
      | nil => exact ⟨y, rfl⟩
      | cons _ _ => cases hl
  refine ⟨_, st_at0, a, C, _, rfl, by show (1 : Nat) ≤ 1000; omega, oe', ha, ?_⟩
  exact ⟨_, st_at1, _, st_at0, a, C, rfl, oe', ht', .inl ⟨ha, fun dx n ne => q dx n ne⟩⟩
theorem ini2 (c : Ct g P w mg base k N sc own cm gb X W) (T : Tb g mg frees globs) (hb : glB sc xb = true) (hf : globs.contains xb = true) (bi : BiC g.K (He.ga g.K xb) b) (oe : OeC g.K C b) (h0 : varB N sc 0 s0 = true) (h1 : varB N sc 1 q1 = true) (h2 : varB N sc 2 q2 = true) (ht : PySem.W.takerIn g.K C f1 = some none) (ht2 : PySem.W.takerIn g.K C f2 = some none) (hw : methForm p2 p5 [.Name s0 p3, .Constant (.str m) j p4] [] = true) :
    IniB X C [f1, f2] np [.Expr (.Call (.Attribute (.Name xb p1) "__init__" p2) [.Name s0 p3, .Constant (.str m) j p4] [] p5) p6, .Assign [.Attribute (.Name s0 p7) f1 p8] (.Name q1 p9) p10, .Assign [.Attribute (.Name s0 p11) f2 p12] (.Name q2 p13) p14] := by
  obtain ⟨g1, g2, g3⟩ := c.gl hb
  obtain ⟨a1, a2, a3, a4⟩ := c.vis h0
  obtain ⟨b1, b2, b3, b4⟩ := c.vis h1
  obtain ⟨c1, c2, c3, c4⟩ := c.vis h2
  have hm : X.mg xb = some (.ref (He.ga g.K xb)) := by rw [c.hmg]; exact (T.gl xb hf).1
  have bi' : BiC X.K (He.ga g.K xb) b := by rw [c.hK]; exact bi
  have oe' : OeC X.K C b := by rw [c.hK]; exact oe
  have ht' : PySem.W.takerIn X.K C f1 = some none := by rw [c.hK]; exact ht
  have ht2' : PySem.W.takerIn X.K C f2 = some none := by rw [c.hK]; exact ht2
  refine ⟨_, pss_cons (ps_expr (pe_ini g1 hm g2 bi' (pa_cons (pe_var a1 a2 a3 a4) (pa_cons pe_str pa_nil)) rfl hw)) (pss_cons (ps_osf (b := b) (pe_var a1 a2 a3 a4) (pe_var b1 b2 b3 b4)) (pss_one (ps_osf (b := b) (pe_var a1 a2 a3 a4) (pe_var c1 c2 c3 c4)))), ?_⟩
  rintro vs H Q E ⟨a, ys, rfl, hl, ha, q⟩
  obtain ⟨y, z, rfl⟩ : ∃ y z, ys = [y, z] := by
    match ys, hl with
    | [y, z], _ => exact ⟨y, z, rfl⟩
  refine ⟨_, st_at0, a, C, _, rfl, by show (1 : Nat) ≤ 1000; omega, oe', ha, ?_⟩
  refine ⟨_, st_at1, _, st_at0, a, C, rfl, oe', ht', .inl ⟨ha, fun dx n ne => ?_⟩⟩
  refine ⟨_, st_at2, _, st_at0, a, C, rfl, oe', ht2', .inr ⟨dx, [(f1, y)], upd_same, by rw [upd_ne ne, upd_same], by show (1 : Nat) ≤ 900; omega, ?_⟩⟩
  show Q _ _
  rw [upd_twice ne]
  exact q dx n ne
/-- its promise -/
theorem fn_ini {x qual : Str} {params : Arguments} {body : List Stmt} {scope : Scope} {dvs : List V} {kws : List (Str × V)} {f : Addr} {fd : FuncData} {N ps fl : List Str} (F : FunD g.K x qual params body scope dvs kws f fd) (S : FnScope N ps scope) (hl : ps.length = fl.length + 1)
    (hb : ∀ X W, Ct g P w mg base k N scope true true false X W → IniB X C fl np body) : FnG false P w g.K mg base (CX P w) (k + 1) f fd ps (spX C fl) := by
  refine by_body F S (fun vs H Q E h => ?_) fun cdv A outer s H vs Q E hr hgd hsp => ?_
  · obtain ⟨a, ys, rfl, e, _⟩ := h
    rw [List.length_cons, e, hl]
  have c : Ct g P w mg base k N scope true true false (cxOf (CX P w) P w g.K mg base N qual scope f cdv A outer s H E) (fun cls d _ H => E cls d H) :=
    ⟨rfl, rfl, rfl, rfl, rfl, rfl, S.nd, S.kind, rfl, fun _ => rfl, hgd, fun _ => hr, Nat.lt_of_le_of_lt (Nat.add_le_add_right (Nat.le_add_right _ _) 200) hr.un, fun _ => rfl, fun _ => rfl, takes_of rfl rfl rfl rfl, fun _ _ => rfl, fun _ _ => passes_of rfl, fun _ => rfl⟩
  obtain ⟨t, h1, h2⟩ := hb _ _ c
  exact ⟨t, h1, h2 vs H Q E hsp⟩
end

/-! ### raise C(e, ..) -/
def dvals : List S → Option (List D)
  | [] => some []
  | .val d :: ss => (dvals ss).map (d :: ·)
  | _ => none
def oVals : List (Option D) → Option (List D)
  | [] => some []
  | some d :: ss => (oVals ss).map (d :: ·)
  | none :: _ => none
def exArgs (ps : List Str) (dfl ds : List D) : Option (List D) := match bindG ([] : List Str) ((none : Option D) :: ds.map some) [] (dfl.map some) ps.length ps 0 with
  | some (none :: os) => oVals os
  | _ => none
def rsK (c n : Nat) (ps : List Str) (dfl : List D) (ρ : En) (ss : List S) (μ : Sto) : Option (Fl × En × Sto) := if ss.length = n then (match dvals ss with
  | some ds => (match exArgs ps dfl ds with
    | some (f :: fs) => some (.ex (.own c (f :: fs).reverse), ρ, μ)
    | _ => none)
  | none => none) else none
def sRaiseI (c n : Nat) (ps : List Str) (dfl : List D) (ms : List ME) : MS := fun ρ μ => exThen (mArgs ms ρ μ) ρ (rsK c n ps dfl ρ)
/-- such a class, its __init__'s promise -/
structure ExI (g : G) (P : Program) (w : World) (mg : Str → Option Value) (base : Heap) (c b : Nat) (fl ps : List Str) (dfl : List D) (k : Nat) (sh : List (Nat × List Str)) : Prop where
  oe : OeC g.K (g.cad c) b
  flc : g.fl c = fl.reverse
  np : ps.length = fl.length + 1
  ini : ∃ fI fd dvs, PySem.W.findIn g.K (.ref (g.cad c)) "__init__" = some (some (.ref fI)) ∧ PySem.W.typeIn g.K (.ref fI) = some (.type "function") ∧ FnG false P w g.K mg base (CX P w) k fI fd ps (spX (g.cad c) fl) ∧ (∀ q ∈ sh, Bnd g.K fd ps q.1 q.2 dvs) ∧ ∀ F, Reps g F dfl dvs
/-- a value of the object that is made, or of a field -/
def RN (g : G) (F : Hp) (a : Addr) : Option D → V → Prop
  | none, v => v = .ref a
  | some d, v => Rep g F d v
theorem rn_some {g : G} {F : Hp} {a : Addr} : ∀ {ds : List D} {vs : List V}, Reps g F ds vs → Paired (RN g F a) (ds.map some) vs
  | [], vs, h => by rw [Reps.nil_iff.mp h]; exact .nil
  | d :: ds, vs, h => by
    obtain ⟨v, r, rfl, h1, h2⟩ := Reps.cons_iff.mp h
    exact .cons h1 (rn_some h2)
theorem rn_back {g : G} {F : Hp} {a : Addr} : ∀ {os : List (Option D)} {ds : List D} {vs : List V}, Paired (RN g F a) os vs → oVals os = some ds → Reps g F ds vs
  | [], ds, vs, h, e => by
    cases e
    cases h
    exact Reps.nil
  | none :: os, ds, vs, h, e => by cases e
  | some d :: os, ds, vs, h, e => by
    obtain ⟨ds', e1, rfl⟩ := Option.map_eq_some_iff.mp (show (oVals os).map (d :: ·) = some ds from e)
    cases h with
    | cons h1 h2 => exact Reps.cons h1 (rn_back h2 e1)
theorem dv_reps {g : G} {F : Hp} {as : List Addr} : ∀ {ss : List S} {ds : List D} {vs : List V}, RSs g F as ss vs → dvals ss = some ds → Reps g F ds vs
  | [], ds, vs, h, e => by
    cases e
    cases h
    exact Reps.nil
  | s :: ss, ds, vs, h, e => by
    cases h with
    | cons h1 h2 =>
      cases s with
      | val d =>
        obtain ⟨ds', e1, rfl⟩ := Option.map_eq_some_iff.mp (show (dvals ss).map (d :: ·) = some ds from e)
        exact Reps.cons h1 (dv_reps h2 e1)
      | fr _ => cases e
      | cell _ => cases e
      | any => cases e
      | pot _ _ _ => cases e
theorem reps_rev {g : G} {F : Hp} {ds : List D} {vs : List V} (h : Reps g F ds vs) : Reps g F ds.reverse vs.reverse := by
  have key : ∀ {ds : List D} {vs : List V} {es : List D} {us : List V}, Reps g F ds vs → Reps g F es us → Reps g F (ds.reverse ++ es) (vs.reverse ++ us) := by
    intro ds
    induction ds with
    | nil =>
      intro vs es us h1 h2
      rw [Reps.nil_iff.mp h1]
      exact h2
    | cons d ds ih =>
      intro vs es us h1 h2
      obtain ⟨v, r, rfl, e1, e2⟩ := Reps.cons_iff.mp h1
      have := ih e2 (Reps.cons e1 h2)
      rw [List.reverse_cons, List.reverse_cons, List.append_assoc, List.append_assoc]
      exact this
  have := key h (Reps.nil (g := g) (F := F))
  rw [List.append_nil, List.append_nil] at this
  exact this
theorem zip_rev {α β : Type} : ∀ {l : List α} {m : List β}, l.length = m.length → (l.zip m).reverse = l.reverse.zip m.reverse
  | [], [], _ => rfl
  | a :: l, b :: m, h => by
    have h' : l.length = m.length := by
      rw [List.length_cons, List.length_cons] at h
      omega
    rw [List.zip_cons_cons, List.reverse_cons, List.reverse_cons, List.reverse_cons, zip_rev h', List.zip_append (by rw [List.length_reverse, List.length_reverse, h'])]
    rfl
  | [], b :: m, h => by cases h
  | a :: l, [], h => by cases h
theorem upd_made {H : Hp} {a d : Addr} {o1 o2 o3 u : HO} (h : d ≠ a) (ha : H a = none) : upd (del (upd (upd (upd H a o1) d o2) a o3) a) d u = upd H d u := by
  funext b
  by_cases hd : b = d
  · subst hd
    rw [upd_same, upd_same]
  · rw [upd_ne hd, upd_ne hd]
    by_cases hb : b = a
    · subst hb
      rw [del_same, ha]
    · rw [del_ne hb, upd_ne hb, upd_ne hd, upd_ne hb]
section
variable {g : G} {P : Program} {w : World} {mg : Str → Option Value} {base : Heap} {k : Nat} {N : List Str} {sc : Scope} {own cm gb : Bool} {X : Cx} {W : WX} {frees globs : List Str}
theorem Ct.raiseI {c b n j : Nat} {fl ps : List Str} {dfl : List D} {sh : List (Nat × List Str)} {ms : List ME} {x : Str} {e : Expr} {es : List Expr} {p pos pos' : Pos} (cx : Ct g P w mg base k N sc own true gb X W) (T : Tb g mg frees globs) (xi : ExI g P w mg base c b fl ps dfl j sh)
    (hj : Nat.ble (j + 1) k = true) (hnl : Nat.ble n 1000 = true) (hs : sh.contains (n + 1, []) = true) (hg : glB sc x = true) (hf : globs.contains x = true) (hc : g.cad c = He.ga g.K x) (hst : (e :: es).all notStar = true) (ha : SA g X W (e :: es) (mArgs ms)) :
    SS g X W (.Raise (some (.Call (.Name x p) (e :: es) [] pos)) none pos') (sRaiseI c n ps dfl ms) := by
  obtain ⟨g1, g2, g3⟩ := cx.gl hg
  have hm : X.mg x = some (.ref (g.cad c)) := by rw [cx.hmg, (T.gl x hf).1, hc]
  have oe : OeC X.K (g.cad c) b := by rw [cx.hK]; exact xi.oe
  obtain ⟨fI, fd, dvs, hi, hti, ok, bnd, rd⟩ := xi.ini
  have bnd := bnd (n + 1, []) (List.contains_iff_mem.mp hs)
  have hroom : Room (j + 1) X.A := (cx.room rfl).mono (Nat.le_of_ble_eq_true hj)
  have e1 := cx.hP
  have e2 := cx.hw
  have e3 := cx.hK
  have e4 := cx.hmg
  have e5 := cx.hb
  subst e1 e2 e4 e5
  rw [← e3] at hi hti ok bnd
  rw [List.all_cons, Bool.and_eq_true] at hst
  refine ⟨fun F as ρ μ σ H DD fl' ρ' μ' h sr er post => wS (ps_raise (cx.calm rfl) cx.tk (t := fun σ H Q => ∀ pins s, Inv X pins σ H s → wpAny (model X.prog X.w) X.A (eval (.Call (.Name x p) (e :: es) [] pos) X.env) (MkP X pins σ Q) X.xe s) (fun pins s σ H Q I h => h pins s I)) ?_⟩
  intro pins s I
  refine wpAny_Call_Name_kw (ld_glob I g1 hm ?_ g2)
  unfold sRaiseI exThen at h
  have key : wpA X (e :: es) σ H fun vs H1 => ∀ (st : Shared) (us : List Value), Inv X pins σ H1 st → Vals vs us → wpAny (model X.prog X.w) X.A (PySem.call (.ref (g.cad c)) us) (MkP X pins σ fun cls d H' => W cls d σ H') X.xe st := by
    cases hr : mArgs ms ρ μ with
    | none => rw [hr] at h; cases h
    | some z =>
      obtain ⟨r, μ1⟩ := z
      rw [hr] at h
      refine ha.run F as ρ μ σ H _ r μ1 hr sr er ?_
      cases r with
      | error y =>
        cases h
        exact fun F' as' cls d H' x' sr' rx => post F' as' σ cls d H' x' sr' (er.mono x') rx
      | ok ss =>
        intro F1 as1 vs H1 x1 sr1 rs1 st us I1 ru
        have h : rsK c n ps dfl ρ ss μ1 = some (fl', ρ', μ') := h
        unfold rsK at h
        split at h
        · rename_i hn
          cases hdv : dvals ss with
          | none => rw [hdv] at h; cases h
          | some ds =>
            rw [hdv] at h
            dsimp only at h
            cases hex : exArgs ps dfl ds with
            | none => rw [hex] at h; cases h
            | some fs =>
              rw [hex] at h
              cases fs with
              | nil => cases h
              | cons f fs =>
                cases h
                have rds : Reps g F1 ds vs := dv_reps rs1 hdv
                have lvs : vs.length = n := by rw [← hn]; exact (Paired.length rs1).symm
                obtain ⟨hp, gn, dr, tk, os⟩ := st
                have hsz : hp.objs.size ≤ hp.objs.size + 1 := Nat.le_succ _
                have hn1 : H1 (hp.objs.size + 1) = none := I1.hok.fresh hsz
                have kk : ∀ b o, hp.get? b = some o → ((hp.push (PySem.W.kdv_tup us)).push (PySem.HandSPX.excO (g.cad c) hp.objs.size)).get? b = some o := fun b o e => Heap.get?_push_of_some _ (Heap.get?_push_of_some _ e)
                have hget : ((hp.push (PySem.W.kdv_tup us)).push (PySem.HandSPX.excO (g.cad c) hp.objs.size)).get? (hp.objs.size + 1) = some (PySem.HandSPX.excO (g.cad c) hp.objs.size) := by heap_get
                have I2 : Inv X pins σ (upd H1 (hp.objs.size + 1) (exo (hp.objs.size + 1) (g.cad c) none)) ⟨(hp.push (PySem.W.kdv_tup us)).push (PySem.HandSPX.excO (g.cad c) hp.objs.size), gn, dr, tk, os⟩ :=
                  I1.laid (t' := tk) (a := hp.objs.size + 1) (o := exo (hp.objs.size + 1) (g.cad c) none) (h' := (hp.push (PySem.W.kdv_tup us)).push (PySem.HandSPX.excO (g.cad c) hp.objs.size)) kk hsz (exo_ok hget)
                obtain ⟨B, FB⟩ := base_ini b
                obtain ⟨nm, N', qn, bs', bm, hdct, sn, sub, ab, col, dd, k0, k1, k2, k3, k5, hC, hT⟩ := PySem.W.excInit_of I1.kIn oe.ini
                obtain ⟨dsv, rdv, hb⟩ := bnd.to
                -- the binding
                unfold exArgs at hex
                split at hex
                · rename_i os' hbg
                  have pself : Paired (RN g F1 (hp.objs.size + 1)) ((none : Option D) :: ds.map some) (V.ref (hp.objs.size + 1) :: vs) := .cons rfl (rn_some rds)
                  obtain ⟨bs, eb, pb⟩ := bindG_ex pself .nil (rn_some (a := hp.objs.size + 1) (rd F1)) hbg
                  obtain ⟨bv, ebv, hbt⟩ := hb _ (Value.ref (hp.objs.size + 1) :: us) [] I2.kIn (by rw [List.length_cons, ← ru.length, lvs]) rfl
                  have rv1 : Vals (V.ref (hp.objs.size + 1) :: vs) (Value.ref (hp.objs.size + 1) :: us) := .cons rfl ru
                  have rn1 : Vals [] [] := .nil
                  have r2 : Vals bs bv := bindG_rel (ks := []) rv1 rn1 rdv eb ebv
                  have lbs : bs.length = ps.length := bindG_len eb
                  cases pb with
                  | @cons _ v0 _ ys p1 p2 =>
                    obtain rfl : v0 = V.ref (hp.objs.size + 1) := p1
                    have rfs : Reps g F1 (f :: fs) ys := rn_back p2 hex
                    have lys : ys.length = fl.length := by
                      have z := lbs
                      rw [List.length_cons, xi.np] at z
                      omega
                    have hus : us.length ≤ sizeLine := by
                      rw [← Paired.length ru, lvs, sizeLine_eq]
                      have := Nat.le_of_ble_eq_true hnl
                      omega
                    refine wpAny_call (PySem.HandSPX.call_own FB hT hC (PySem.W.looks_findIn I1.kIn hi) (fun self => PySem.W.bind_fn I1.kIn self hti) hus
                      (codeAny_mono (ok.go _ X.stack _ _ ⟨Value.ref (hp.objs.size + 1) :: us, []⟩ bv _ (fun v H2 => v = .non ∧ ∃ dx, H1 dx = none ∧ dx ≠ hp.objs.size + 1 ∧ H2 = upd (upd (upd H1 (hp.objs.size + 1) (exo (hp.objs.size + 1) (g.cad c) none)) dx (exd dx (fl.zip ys).reverse)) (hp.objs.size + 1) (exo (hp.objs.size + 1) (g.cad c) (some dx))) (fun _ _ _ => False) (hroom.make (g.cad c) us []) (fun z => by cases z) (I2.env0.make (g.cad c) us []) hbt r2 ?_) fun r s' hq' => ?_))
                    · refine ⟨hp.objs.size + 1, ys, rfl, lys, upd_same, fun dx n1 n2 => ⟨rfl, dx, ?_, n2, rfl⟩⟩
                      rw [upd_ne n2] at n1
                      exact n1
                    · cases r with
                      | error er' =>
                        obtain ⟨_, _, _, _, _, _, _, _, _, _, _, _, z⟩ := hq'
                        exact z.elim
                      | ok fl2 =>
                        cases fl2 with
                        | next => exact False.elim hq'
                        | brk => exact False.elim hq'
                        | cont => exact False.elim hq'
                        | ret u =>
                          obtain ⟨v, H2, os2, bare2, un2, hok2, rv, ev, dx, nd, ne, eH⟩ := hq'
                          subst ev
                          subst eH
                          obtain ⟨h2, gn2, dr2, t2, os''⟩ := s'
                          refine ⟨rv, mk_end (d := dx) (fs := (fl.zip ys).reverse) (raises_own oe.exC oe.tyC) I1 hsz kk un2 hok2 os2 bare2 upd_same (by rw [upd_ne ne, upd_same]) nd ?_⟩
                          rw [upd_made ne hn1]
                          obtain ⟨sr3, f3, n3⟩ := sr1.loose (o := .xd (fl.zip ys).reverse) nd
                          refine post F1 as1 σ (.ref (g.cad c)) (some dx) _ x1 sr3 (er.mono x1) ⟨rfl, .inr ⟨dx, ys.reverse, by simp, rfl, ?_, ?_, reps_rev rfs⟩⟩
                          · rw [upd_same, xi.flc, zip_rev lys.symm]
                          · rw [xi.flc, List.length_reverse, List.length_reverse, lys]
                · cases hex
        · cases h
  refine PySem.W.callWith_K (h₀ := X.base) I.ok.mod.kin oe.kC (thn (key pos pins s I) fun us s1 ⟨vs, H1, I1, r1, q1⟩ => ⟨I1.kIn, q1 s1 us I1 r1⟩) (starEach_cons hst.1) (starEach_plain hst.2)
end
end Sz

set_option Elab.async false
set_option linter.all false
set_option maxRecDepth 100000
set_option maxHeartbeats 4000000
/-! Sz ZJ: what was caught: its fields, isinstance with fields. -/
namespace PySem.W
open PySem PySem.Spec PySem.Calls PyProof.Rows
section
variable {prog : Program} {w : World} {A : Around} {E : Value → Shared → Prop} {s : Shared} {K : Frag} {x D : Addr} {ox : Obj} {od : Option Obj}
theorem sz_findO {C : Addr} {name : Str} {a g : Value} (hc : (clsIn K C).isSome = true) (ha : findIn K (.ref C) name = some (some a)) (hg : specialIn K a "__get__" = some (some g)) (ht : takesIn K a = some true) : findObj K C od name = some (.bind g a) := by
  obtain ⟨cd, hc⟩ := Option.isSome_iff_exists.mp hc
  unfold findObj
  rw [hc, Option.bind_some, ha, Option.bind_some]
  simp [hg, ht]
theorem sz_class {Q : Option Value → Shared → Prop} (hga : findIn K (.ref D) "__getattribute__" = some (some (.builtin "BaseException.__getattribute__"))) (hgt : findIn K (.ref D) "__getattr__" = some none) (hsub : subIn K (.ref D) (.type "BaseException") = some true)
    (hdct : hasDictIn K D = true) (ha : findIn K (.ref D) "__class__" = some (some (.builtin "object.__class__")))
    (hn : specialIn K (.builtin "object.__class__") "__get__" = some (some (.builtin "getset_descriptor.__get__"))) (htk : takesIn K (.builtin "object.__class__") = some true) (hm : mroIn K D (.type "object") = some true)
    (X : K.In s.heap) (I : InstAt s.heap x ox D od) (h : Q (some (.ref D)) { s with toks := s.toks + 1 }) : wpAny (model prog w) A (getAttr? (.ref x) "__class__") Q E s := by
  have hf : findObj K D od "__class__" = some (.bind (.builtin "getset_descriptor.__get__") (.builtin "object.__class__")) := sz_findO (by obtain ⟨cd, hc, _⟩ := any_some hdct; rw [hc]; rfl) ha hn htk
  obtain ⟨hp, g, d, t, os⟩ := s
  have L0 := I.type (M := model prog w)
  have L1 := looks_findIn (M := model prog w) X hga
  have L2 := looks_findIn (M := model prog w) X hgt
  have L3 := looks_find (M := model prog w) X I hf
  have sub : Looks (model prog w) hp (isInstance (.ref x) (.type "BaseException")) true := L0.andThen (looks_subIn X hsub)
  have hx0 : (false && onTheHeap (Value.builtin "BaseException.__getattribute__")) = false := rfl
  have hx2 : (Value.builtin "BaseException.__getattribute__" == Value.builtin "object.__getattribute__") = false := by decide +kernel
  have hx1 : (onTheHeap (Value.ref D) && Value.builtin "BaseException.__getattribute__" == Value.builtin "object.__getattribute__") = false := by rw [hx2]; rfl
  unfold getAttr? getAttrBy? getAttrBy
  refine wpAny_bind (wpAny_mkText (wpAny_bind (wpAny_attempt (wpAny_holding (wpAny_bind (L0.at (wpAny_bind (L1.at ?_))))))))
  show wpAny _ _ (if (onTheHeap (Value.ref D) && Value.builtin "BaseException.__getattribute__" == Value.builtin "object.__getattribute__") = true then _ else _) _ _ _
  rw [hx1, if_neg Bool.false_ne_true]
  unfold getAttrByItsOwn hookBefore
  refine wpAny_bind ?_
  rw [if_pos (show onTheHeap (Value.ref D) = true from rfl)]
  refine L2.at ?_
  refine wpAny_bind (wpAny_attempt (wpAny_holding ?_))
  unfold callGetattribute
  rw [hx0, if_neg Bool.false_ne_true]
  unfold boundAndCalled
  rw [PySem.F.excAttr_ValueError.ga.bind (.ref x)]
  refine wpAny_bind (wpAny_pure ?_)
  show wpAny _ _ (call (.builtin "BaseException.__getattribute__") [.ref x, .str "__class__" t]) _ _ _
  refine wpAny_call (codeAny_call_builtin PySem.F.excAttr_ValueError.ga.plain PySem.F.entry_bexc_ga ?_)
  refine @check_slot (model prog w) _ _ ⟨hp, g, d, t + 1, os⟩ "BaseException.__getattribute__" "BaseException" "__getattribute__" (.ref x) [.str "__class__" t] [] _ (by decide +kernel) (by decide +kernel) sub (PySem.F.args_bexc_ga (.ref x) (.str "__class__" t)) ?_
  unfold Builtin.«object.__getattribute__»
  refine wpAny_bind (wpAny_of_eq (a := ((Value.ref x : Value), [Value.str "__class__" t])) (by first | rfl | (simp only [slotArgs]; rfl)) ?_)
  refine wpAny_bind (wpAny_pure (wpAny_bind (L0.at (wpAny_bind (L3.at ?_)))))
  show wpAny _ _ (holding [Value.builtin "object.__class__"] (call (.builtin "getset_descriptor.__get__") [.builtin "object.__class__", .ref x, .ref D]) >>= ret) _ _ _
  refine wpAny_bind (wpAny_holding (wpAny_call (class_get (s := ⟨hp, g, d, t + 1, os⟩) (ox := ox) (od := od) X I hm ?_)))
  refine wpAny_pure ?_
  show wpAny _ _ (handedOut (.ref D)) _ _ _
  rw [handedOut_of (v := .ref D) rfl]
  first
    | exact wpAny_pure (wpAny_pure h)
    | exact wpAny_pure h
    | exact wpAny_pure (wpAny_bind (wpAny_pure (wpAny_pure h)))
theorem sz_kitx (hga : findIn K (.ref D) "__getattribute__" = some (some (.builtin "BaseException.__getattribute__"))) (hgt : findIn K (.ref D) "__getattr__" = some none) (hsub : subIn K (.ref D) (.type "BaseException") = some true) (hdct : hasDictIn K D = true) (ha : findIn K (.ref D) "__class__" = some (some (.builtin "object.__class__")))
    (hn : specialIn K (.builtin "object.__class__") "__get__" = some (some (.builtin "getset_descriptor.__get__"))) (htk : takesIn K (.builtin "object.__class__") = some true) (hm : mroIn K D (.type "object") = some true) :
    KitX K (.ref x) (.ref D) (fun h => InstAt h x ox D od) where
  ty := fun _ _ _ I => I.type
  it := fun _ _ X _ => by
    obtain ⟨cdD, hcD, _⟩ := any_some hdct
    unfold clsIn at hcD
    split at hcD
    · rename_i c' d' cd' sl' ho
      intro A' Q' E' s' k q
      unfold isType loadHead
      exact wpAny_bind (wpAny_loadPart (k _ _ (X _ _ ho)) (wpAny_pure q))
    · cases hcD
  ne := fun h tp dd its n sl X htp => by
    obtain ⟨cdD, hcD, _⟩ := any_some hdct
    refine Bool.eq_false_iff.mpr fun q => ?_
    have e : D = tp := Value.ref.inj (beq_iff_eq.mp q)
    subst e
    unfold clsIn at hcD
    split at hcD
    · rename_i c' d' cd' sl' ho
      have z := (X _ _ ho).symm.trans htp
      cases z
    · cases hcD
  ca := fun X I k => sz_class hga hgt hsub hdct ha hn htk hm X I k
end
end PySem.W
namespace Sz
open PySem PySem.Spec PyProof.Rows L2
/-- what is caught, in the heap: its object, its dict -/
theorem exc_at {X : Cx} {g : G} {pins : List (Addr × Obj)} {σ : L2.St} {F H : Hp} {as : List Addr} {μ : Sto} {st : Shared} {c : Nat} {fs : List D} {v : V} (sr : SR g F as μ H) (r : Rep g F (.exc c fs) v) (I : Inv X pins σ H st) :
    ∃ a oe od, v = .ref a ∧ PySem.W.InstAt st.heap a oe (g.cad c) od ∧ (fs ≠ [] → ∃ dx vs mA o, od = some o ∧ H dx = some (.xd ((g.fl c).zip vs)) ∧ vs.length = (g.fl c).length ∧ Reps g F fs vs ∧ st.heap.Ns1 dx mA ∧ st.heap.get? dx = some o ∧ ∀ f, RelO (((g.fl c).zip vs).lookup f) (mA f)) := by
  unfold Rep at r
  obtain ⟨a, oe, dx, vs, rfl, e2, e3, ⟨ws, e4⟩, e5, e6, e8, e7⟩ := r
  have h := I.hok a _ (sr.sub _ _ e2)
  have hget : st.heap.get? a = some oe := h.1
  obtain ⟨oc, od, oda, osl⟩ := oe
  dsimp only at e3 e4
  subst e3 e4
  cases od with
  | none =>
    have hv : vs = [] := e6 (fun z => by cases z)
    refine ⟨a, _, none, rfl, ⟨hget, rfl, rfl, trivial⟩, fun hne => absurd ?_ hne⟩
    subst hv
    cases fs with
    | nil => rfl
    | cons d ds =>
      obtain ⟨_, _, z, _⟩ := Reps.cons_iff.mp e7
      cases z
  | some d =>
    by_cases hd : d = dx
    · subst hd
      obtain ⟨k1, k2⟩ := e5 rfl
      have hx := I.hok d _ (sr.sub _ _ k1)
      obtain ⟨mA, hns, hr⟩ := (show ObjOk X.prog X.w H st.heap d (.xd ((g.fl c).zip vs)) from hx)
      obtain ⟨o, ho, hl⟩ := lookIn_ns hns
      exact ⟨a, _, some o, rfl, ⟨hget, rfl, rfl, ho⟩, fun _ => ⟨d, vs, mA, o, rfl, sr.sub _ _ k1, k2, e7, hns, ho, hr⟩⟩
    · have hv : vs = [] := e6 (fun z => hd (Option.some.inj z))
      subst hv
      have hf : fs = [] := by
        cases fs with
        | nil => rfl
        | cons d ds =>
          obtain ⟨_, _, z, _⟩ := Reps.cons_iff.mp e7
          cases z
      exact absurd (e8 hf) (by intro z; cases z)
/-! ### o.f of what was caught -/
theorem lookX {β : Type} {f g : Str} {y : β} {fs : List (Str × β)} : ((f, y) :: fs).lookup g = if g = f then some y else fs.lookup g := by
  by_cases h : g = f
  · subst h
    simp [List.lookup]
  · have e : (g == f) = false := by simpa using h
    rw [if_neg h]
    simp [List.lookup, e]
theorem look_zip {g : G} {F : Hp} {f : Str} {d : D} : ∀ {l : List Str} {ds : List D} {vs : List V}, Reps g F ds vs → (l.zip ds).lookup f = some d → ∃ v, (l.zip vs).lookup f = some v ∧ Rep g F d v
  | [], _, _, _, h => by cases h
  | _ :: _, [], _, _, h => by cases h
  | x :: l, e :: ds, vs, r, h => by
    obtain ⟨v, us, rfl, r1, r2⟩ := Reps.cons_iff.mp r
    rw [List.zip_cons_cons, lookX] at h
    rw [List.zip_cons_cons]
    by_cases q : f = x
    · rw [if_pos q] at h
      cases h
      exact ⟨v, by rw [lookX, if_pos q], r1⟩
    · rw [if_neg q] at h
      obtain ⟨u, h1, h2⟩ := look_zip r2 h
      exact ⟨u, by rw [lookX, if_neg q]; exact h1, h2⟩

/-- the classes with fields: number, fields as they lie -/
abbrev XFl := List (Nat × List Str)
structure XfF (g : G) (xfl : XFl) : Prop where
  fl : ∀ c l, xfl.lookup c = some l → g.fl c = l
  ok : ∀ c l, xfl.lookup c = some l → XfC g.K (g.cad c)
  no : ∀ c l f, xfl.lookup c = some l → f ∈ l → PySem.W.findIn g.K (.ref (g.cad c)) f = some none
def atX (xfl : XFl) (f : Str) (c : Nat) (fs : List D) (μ : Sto) : Option R := match xfl.lookup c with
  | some l => (match fs, (l.zip fs).lookup f with
    | _ :: _, some d => some (.ok (.val d), μ)
    | _, _ => none)
  | none => none
def atXK (xfl : XFl) (f : Str) (old : Option R) : Option R → Option R
  | some (.ok (.val (.exc c fs)), μ) => atX xfl f c fs μ
  | _ => old
/-- o.f, o perhaps what was caught -/
def mAttrX (xfl : XFl) (fls : List (List Str)) (f : Str) (a : ME) : ME := fun ρ μ => atXK xfl f (mAttr fls f a ρ μ) (a ρ μ)
theorem lkp_fst {f : Str} {d : D} : ∀ {l : List Str} {ds : List D}, (l.zip ds).lookup f = some d → f ∈ l
  | [], _, h => by cases h
  | _ :: _, [], h => by cases h
  | x :: l, e :: ds, h => by
    rw [List.zip_cons_cons, lookX] at h
    by_cases q : f = x
    · rw [q]
      exact List.mem_cons_self
    · rw [if_neg q] at h
      exact List.mem_cons_of_mem _ (lkp_fst h)
section
variable {g : G} {X : Cx} {W : WX} {a : Expr} {ma : ME} {pos : Pos} {f : Str} {fls : List (List Str)} {xfl : XFl}
theorem se_attrX (hg : g.K = X.K) (xa : XfF g xfl) (ha : SE g X W a ma) (hs : notCall a = true) (old : SE g X W (.Attribute a f pos) (mAttr fls f ma)) : SE g X W (.Attribute a f pos) (mAttrX xfl fls f ma) := by
  refine ⟨fun F as ρ μ σ H Q r μ' h sr er post => ?_⟩
  have h : atXK xfl f (mAttr fls f ma ρ μ) (ma ρ μ) = some (r, μ') := h
  unfold atXK at h
  split at h
  · rename_i c fs μ1 hm
    unfold atX at h
    split at h
    · rename_i l hl
      split at h
      · rename_i d0 ds d hd
        cases h
        have key : wpE X a σ H fun v H1 => ∃ F' as', Ext F as F' as' ∧ SR g F' as' μ' H1 ∧ Rep g F' (.exc c (d0 :: ds)) v := ha.run F as ρ μ σ H _ _ μ' hm sr er fun F' as' v H' e' r' q => ⟨F', as', e', r', q⟩
        intro pins s I
        refine attr_of (attrBase hs) (thn (key pins s I) fun u s1 hh => ?_)
        obtain ⟨x, H1, I1, rx, F', as', e', sr', rep⟩ := hh
        obtain ⟨b, oe, od, rfl, J, more⟩ := exc_at sr' rep I1
        obtain rfl : u = Value.ref b := rx
        obtain ⟨dx, vs, mA, o, rfl, hx, hlen, rfs, hns, ho, hr⟩ := more (by simp)
        have hfl := xa.fl c l hl
        obtain ⟨v, lv, rv⟩ := look_zip rfs hd
        obtain ⟨od', ho', hlk⟩ := lookIn_ns hns
        rw [ho] at ho'
        cases ho'
        obtain ⟨u, hu, ru⟩ := RelO.some_of (v := v) (o := mA f) (by rw [← lv, ← hfl]; exact hr f)
        have C := xa.ok c l hl
        have no := xa.no c l f hl (lkp_fst hd)
        exact HandSPX.exc_get I1.kIn J (hg ▸ C.ga) (hg ▸ C.gg) (hg ▸ C.exC) (PySem.W.findObj_own (hg ▸ C.hdC) (hg ▸ no) rfl (by rw [hlk, hu])) (handed_of ru) ⟨v, H1, I1.tok _, ru, post F' as' v H1 e' sr' rv⟩
      · cases h
    · cases h
  · exact old.run F as ρ μ σ H Q r μ' h sr er post
end

/-! ### isinstance of what was caught, with fields or without -/
def bIsiY (sub : Nat → Nat → Option Bool) (ty : Nat → String → Option Bool) (op : List D → Option S) : List D → Option S
  | [.exc c _, .tup (d :: ds)] => (isXs sub ty c (d :: ds)).map fun b => .val (.bl b)
  | [.exc c _, k] => (isX sub ty c k).map fun b => .val (.bl b)
  | xs => op xs
theorem co_isiY {g : G} {X : Cx} {sub : Nat → Nat → Option Bool} {ty : Nat → String → Option Bool} {op : List D → Option S} (hg : g.K = X.K) (xf : ExcF g sub ty) (ho : CallOk g X (.builtin "isinstance") op) : CallOk g X (.builtin "isinstance") (bIsiY sub ty op) := by
  intro xs s F as μ H vs Q e sr hx k
  unfold bIsiY at e
  split at e
  · rename_i c fs d0 ds
    obtain ⟨b, h, rfl⟩ := Option.map_eq_some_iff.mp e
    obtain ⟨v, u, rfl, h1, h2⟩ := vrs2 hx
    intro pins st σ us I r
    obtain ⟨a, oe, od, rfl, J, _⟩ := exc_at sr (vr_rep (fun ds q => by cases q) h1) I
    have C := isXs_some xf h
    obtain ⟨v', u', rfl, rx, rt⟩ := vals2 r
    cases (show v' = .ref a from rx)
    · have h2' : Rep g F (.tup (d0 :: ds)) u := vr_rep (fun ds q => by cases q) h2
      unfold Rep at h2'
      obtain ⟨a2, ws, rfl, s1, r1⟩ := h2'
      cases (show u' = .ref a2 from rt)
      obtain ⟨its, v1, t1, z1⟩ := I.tuple (hg ▸ seqT_mono sr.sub s1)
      obtain ⟨⟨cls, dd, data, sl⟩, ho2, hc2, n, hd2⟩ := id t1
      simp only at hc2 hd2
      subst hc2 hd2
      have kk := isXs_kit xf C h r1 v1
      exact PySem.W.kia_tup (PySem.W.sz_kitx (hg ▸ C.hg) (hg ▸ C.hk) (hg ▸ C.hs) (hg ▸ C.hd) (hg ▸ C.ha) (hg ▸ C.hn) (hg ▸ C.ht) (hg ▸ C.hm)) I.kIn J ho2 (hg ▸ kk) (fun z => nomatch z) fun tk => ⟨.bl b, H, I.kept (t' := tk) fun _ _ z => z, rfl, k F as _ H .refl sr ra_bl⟩
  · rename_i c fs d _
    obtain ⟨b, h, rfl⟩ := Option.map_eq_some_iff.mp e
    obtain ⟨v, u, rfl, h1, h2⟩ := vrs2 hx
    intro pins st σ us I r
    obtain ⟨a, oe, od, rfl, J, _⟩ := exc_at sr (vr_rep (fun ds q => by cases q) h1) I
    obtain ⟨v', u', rfl, rx, rt⟩ := vals2 r
    cases (show v' = .ref a from rx)
    · have h2' : Rep g F d u := vr_rep (fun ds q => by rw [q] at h; cases h) h2
      obtain ⟨C, kk⟩ := isX_kit xf h h2' rt
      exact PySem.W.kia_one (PySem.W.sz_kitx (hg ▸ C.hg) (hg ▸ C.hk) (hg ▸ C.hs) (hg ▸ C.hd) (hg ▸ C.ha) (hg ▸ C.hn) (hg ▸ C.ht) (hg ▸ C.hm)) I.kIn J (hg ▸ kk) (fun z => nomatch z) fun tk => ⟨.bl b, H, I.kept (t' := tk) fun _ _ z => z, rfl, k F as _ H .refl sr ra_bl⟩
  · exact ho _ s F as μ H vs Q e sr hx k
end Sz

set_option Elab.async false
set_option linter.all false
set_option maxRecDepth 100000
set_option maxHeartbeats 4000000
/-! Sz ZK: what the head tells of exceptions with an __init__ of their own. -/
namespace Sz
open PySem PySem.Spec PyProof.Rows L2
/-- such a class: its name, the number of its built-in base, the own base that its __init__ calls, its fields in the order of the stores -/
structure XI where
  nm : Str
  b : Nat
  ob : Str
  fl : List Str
open PySem.W in
def xiB (K : Frag) (p : XI) : Bool :=
  ((excInitIn K (He.ga K p.nm) (bmOf p.b) (newOf p.b) && excOver K (He.ga K p.nm) (bmOf p.b)) && (hasDictIn K (He.ga K p.nm) && keepIn K (.ref (He.ga K p.nm)))) &&
  (((findIn K (.ref (He.ga K p.nm)) "__setattr__" == some (some (.builtin "object.__setattr__")) && subIn K (.ref (He.ga K p.nm)) (.type "BaseException") == some true) && (typeIn K (.ref (He.ga K p.nm)) == some (.type "type") && mroIn K (He.ga K p.nm) (.type "object") == some true)) &&
  (((findIn K (.ref (He.ga K p.nm)) "__getattribute__" == some (some (.builtin "BaseException.__getattribute__")) && findIn K (.ref (He.ga K p.nm)) "__getattr__" == some none) && findIn K (.ref (He.ga K p.nm)) "__class__" == some (some (.builtin "object.__class__"))) &&
  (((specialIn K (.ref (He.ga K p.ob)) "__getattribute__" == some (some (.builtin "type.__getattribute__")) && readsIn K (He.ga K p.ob) (.type "type")) && (match findCls K (.ref (He.ga K p.ob)) (.type "type") "__init__" with | some (.val (.builtin x)) => x == iniOf p.b | _ => false)) &&
  ((p.fl.all fun f => findIn K (.ref (He.ga K p.nm)) f == some none) &&
  (findIn K (.ref (He.ga K p.nm)) "__init__" == some (some (.ref (He.ma K (He.ga K p.nm) "__init__"))) && typeIn K (.ref (He.ma K (He.ga K p.nm) "__init__")) == some (.type "function"))))))
abbrev XIs := List (Nat × XI)
def xiA (cls : List Str) (xi : XIs) (K : PySem.W.Frag) : Bool := xi.all fun p => xiB K p.2 && cls.getD p.1 "" == p.2.nm
def subY (t : XTab) (xi : XIs) (c j : Nat) : Option Bool := if (t.exs.lookup c).isSome || (xi.lookup c).isSome then t.sub.lookup (c, j) else none
def tyY (t : XTab) (xi : XIs) (c : Nat) (T : String) : Option Bool := if (t.exs.lookup c).isSome || (xi.lookup c).isSome then t.ty.lookup (c, T) else none
def xflOf (xi : XIs) : XFl := xi.map fun p => (p.1, p.2.fl.reverse)
theorem lookup_map {α β γ : Type} [BEq α] {f : β → γ} {k : α} : ∀ {l : List (α × β)}, (l.map fun p => (p.1, f p.2)).lookup k = (l.lookup k).map f
  | [] => rfl
  | (x, y) :: l => by
    rw [List.map_cons]
    unfold List.lookup
    cases k == x with
    | true => rfl
    | false => exact lookup_map
section
variable {cls fns : List Str} {fls : List (List Str)} {K : PySem.W.Frag} {t : XTab} {xi : XIs}
theorem xi_one (h : xiA cls xi K = true) {c : Nat} {p : XI} (hc : xi.lookup c = some p) : xiB K p = true ∧ (gOf cls fls K fns).cad c = He.ga K p.nm := by
  have h1 := List.all_eq_true.mp h (c, p) (lkp_mem hc)
  refine ⟨(He.ba h1).1, ?_⟩
  show He.ga K (cls.getD c "") = _
  rw [beq_iff_eq.mp (He.ba h1).2]
theorem xi_oe {p : XI} (h : xiB K p = true) : OeC K (He.ga K p.nm) p.b := by
  unfold xiB at h
  have r := (He.ba (He.ba h).2).1
  exact ⟨(He.ba (He.ba (He.ba h).1).1).1, (He.ba (He.ba (He.ba h).1).1).2, (He.ba (He.ba (He.ba h).1).2).1, beq_iff_eq.mp (He.ba (He.ba r).1).1, beq_iff_eq.mp (He.ba (He.ba r).1).2, beq_iff_eq.mp (He.ba (He.ba r).2).1, (He.ba (He.ba (He.ba h).1).2).2⟩
theorem xi_bi {p : XI} (h : xiB K p = true) : BiC K (He.ga K p.ob) p.b := by
  unfold xiB at h
  have r := (He.ba (He.ba (He.ba (He.ba h).2).2).2).1
  refine ⟨beq_iff_eq.mp (He.ba (He.ba r).1).1, (He.ba (He.ba r).1).2, ?_⟩
  have q := (He.ba r).2
  split at q
  · rename_i x e
    rw [e, beq_iff_eq.mp q]
  · cases q
theorem xi_no {p : XI} (h : xiB K p = true) {f : Str} (hf : f ∈ p.fl) : PySem.W.findIn K (.ref (He.ga K p.nm)) f = some none := by
  unfold xiB at h
  exact beq_iff_eq.mp (List.all_eq_true.mp (He.ba (He.ba (He.ba (He.ba (He.ba h).2).2).2).2).1 f hf)
theorem xi_tk {p : XI} (h : xiB K p = true) {f : Str} (hf : f ∈ p.fl) : PySem.W.takerIn K (He.ga K p.nm) f = some none := by
  unfold PySem.W.takerIn
  rw [xi_no h hf]
  rfl
theorem xi_ini {p : XI} (h : xiB K p = true) : PySem.W.findIn K (.ref (He.ga K p.nm)) "__init__" = some (some (.ref (He.ma K (He.ga K p.nm) "__init__"))) ∧ PySem.W.typeIn K (.ref (He.ma K (He.ga K p.nm) "__init__")) = some (.type "function") := by
  unfold xiB at h
  have r := (He.ba (He.ba (He.ba (He.ba (He.ba h).2).2).2).2).2
  exact ⟨beq_iff_eq.mp (He.ba r).1, beq_iff_eq.mp (He.ba r).2⟩
theorem xi_ec (hx : xtB cls t K = true) {p : XI} (h : xiB K p = true) : ExcC K (He.ga K p.nm) := by
  unfold xiB at h
  have r := (He.ba (He.ba h).2).1
  have q := (He.ba (He.ba (He.ba h).2).2).1
  have k := (He.ba (He.ba hx).1).1
  exact ⟨beq_iff_eq.mp (He.ba (He.ba q).1).1, beq_iff_eq.mp (He.ba (He.ba q).1).2, beq_iff_eq.mp (He.ba (He.ba r).1).2, (He.ba (He.ba (He.ba h).1).2).1, beq_iff_eq.mp (He.ba q).2, beq_iff_eq.mp (He.ba k).1, beq_iff_eq.mp (He.ba k).2, beq_iff_eq.mp (He.ba (He.ba r).2).2⟩
theorem xi_xf {p : XI} (h : xiB K p = true) : XfC K (He.ga K p.nm) := by
  unfold xiB at h
  have r := (He.ba (He.ba h).2).1
  have q := (He.ba (He.ba (He.ba h).2).2).1
  exact ⟨beq_iff_eq.mp (He.ba (He.ba q).1).1, beq_iff_eq.mp (He.ba (He.ba q).1).2, beq_iff_eq.mp (He.ba (He.ba r).1).2, (He.ba (He.ba (He.ba h).1).2).1⟩
theorem xt_isiY (hx : xtB cls t K = true) (h : xiA cls xi K = true) : ExcF (gOf cls fls K fns) (subY t xi) (tyY t xi) := by
  have key : ∀ c, ((t.exs.lookup c).isSome || (xi.lookup c).isSome) = true → ExcC K ((gOf cls fls K fns).cad c) := fun c q => by
    rcases Bool.or_eq_true_iff.mp q with q | q
    · exact xt_ec hx q
    · obtain ⟨p, hp⟩ := Option.isSome_iff_exists.mp q
      obtain ⟨h1, h2⟩ := xi_one (fls := fls) (fns := fns) h hp
      rw [h2]
      exact xi_ec hx h1
  refine ⟨fun c j b e => ?_, fun c T b e => ?_⟩
  · unfold subY at e
    split at e
    · rename_i q
      exact ⟨key c q, beq_iff_eq.mp (List.all_eq_true.mp (He.ba (He.ba (He.ba hx).2).2).1 ((c, j), b) (lkp_mem e))⟩
    · cases e
  · unfold tyY at e
    split at e
    · rename_i q
      exact ⟨key c q, beq_iff_eq.mp (List.all_eq_true.mp (He.ba (He.ba (He.ba hx).2).2).2 ((c, T), b) (lkp_mem e))⟩
    · cases e
theorem xi_xff (h : xiA cls xi K = true) (hf : (xi.all fun p => fls.getD p.1 [] == p.2.fl.reverse) = true) : XfF (gOf cls fls K fns) (xflOf xi) := by
  have key : ∀ c l, (xflOf xi).lookup c = some l → ∃ p, xi.lookup c = some p ∧ l = p.fl.reverse := fun c l e => by
    unfold xflOf at e
    rw [lookup_map (f := fun p : XI => p.fl.reverse)] at e
    obtain ⟨p, h1, h2⟩ := Option.map_eq_some_iff.mp e
    exact ⟨p, h1, h2.symm⟩
  refine ⟨fun c l e => ?_, fun c l e => ?_, fun c l f e hm => ?_⟩
  · obtain ⟨p, h1, rfl⟩ := key c l e
    exact beq_iff_eq.mp (List.all_eq_true.mp hf (c, p) (lkp_mem h1))
  · obtain ⟨p, h1, rfl⟩ := key c l e
    obtain ⟨h3, h4⟩ := xi_one (fls := fls) (fns := fns) h h1
    rw [h4]
    exact xi_xf h3
  · obtain ⟨p, h1, rfl⟩ := key c l e
    obtain ⟨h3, h4⟩ := xi_one (fls := fls) (fns := fns) h h1
    rw [h4]
    exact xi_no h3 (List.mem_reverse.mp hm)
end
section
variable {P : Program} {w : World} {mg : Str → Option Value} {base : Heap} {cls fns : List Str} {fls : List (List Str)} {K : PySem.W.Frag} {xi : XIs}
/-- the promise of a raise -/
theorem xi_exi {c : Nat} {p : XI} {ps N : List Str} {dfl : List D} {sh : List (Nat × List Str)} {x qual : Str} {params : Arguments} {body : List Stmt} {scope : Scope} {np : Nat} (h : xiA cls xi K = true) (hc : xi.lookup c = some p) (hfl : (fls.getD c [] == p.fl.reverse) = true)
    (hF : ∃ fd, FunD K x qual params body scope ((dfl.map dvOf).map (He.Dv.v K)) [] (He.ma K (He.ga K p.nm) "__init__") fd) (hd : dfl.all dvOk = true) (S : FnScope N ps scope) (hl : ps.length = p.fl.length + 1)
    (hb : ∀ X W, xiB K p = true → Ct (gOf cls fls K fns) P w mg base 0 N scope true true false X W → IniB X (He.ga K p.nm) p.fl np body)
    (hB : ∀ fd, FunD K x qual params body scope ((dfl.map dvOf).map (He.Dv.v K)) [] (He.ma K (He.ga K p.nm) "__init__") fd → BndAll K fd ps ((dfl.map dvOf).map (He.Dv.v K)) sh) :
    ExI (gOf cls fls K fns) P w mg base c p.b p.fl ps dfl 1 sh := by
  obtain ⟨h1, h2⟩ := xi_one (fls := fls) (fns := fns) h hc
  obtain ⟨fd, F⟩ := hF
  obtain ⟨i1, i2⟩ := xi_ini h1
  refine ⟨by rw [h2]; exact xi_oe h1, beq_iff_eq.mp hfl, hl, _, fd, _, by rw [h2]; exact i1, i2, by rw [h2]; exact fn_ini (g := gOf cls fls K fns) (np := np) F S hl fun X W cx => hb X W h1 cx, (hB fd F).get, fun _ => dvs_rep (g := gOf cls fls K fns) hd⟩
end
end Sz

set_option Elab.async false
set_option linter.all false
set_option maxRecDepth 100000
set_option maxHeartbeats 4000000
/-! Sz ZL: reckoning with exceptions that hold fields. -/
namespace Sz
open PySem PySem.Spec L2
/-! the head's hook, with the table of the interpreter's own statics (readsIn looks there) -/
def obsSG (n : Nat) (chk : PySem.W.Frag → Bool) (fa : List He.Fa) (fn : List He.DefD) (ts : List He.Tab) (g : Addr → Option Obj) : AlY := obsY chk fa fn ts (He.frG g (He.asD g n ++ [cStatics]))
def hookS (n : Nat) (chk : PySem.W.Frag → Bool) (fa : List He.Fa) (fn : List He.DefD) (ts : List He.Tab) : PySem.W.Hook where
  α := AlY
  obs := fun s => obsSG n chk fa fn ts s.heap.get?
  val := fun w => valY fn ts w
  says := fun w h => ∃ K : PySem.W.Frag, K.In h ∧ SaysY chk fa fn ts w K
  of := fun _ _ e => ⟨_, He.frG_in, e⟩
  keeps := fun _ _ _ ⟨K, hK, c⟩ k => ⟨K, PySem.W.Frag.In.keeps hK k, c⟩
theorem obsSG_eq {n : Nat} {chk : PySem.W.Frag → Bool} {fa : List He.Fa} {fn : List He.DefD} {ts : List He.Tab} {g : Addr → Option Obj} {s : Shared} (h : ∀ a, g a = s.heap.get? a) : obsSG n chk fa fn ts g = (hookS n chk fa fn ts).obs s := by
  have e : g = s.heap.get? := funext h
  rw [e] <;> rfl
section
variable {c n : Nat} {ps : List Str} {dfl : List D} {ms : List ME} {ρ : En} {μ : Sto} {a b b2 : Str} {d d2 e : D} {xfl : XFl} {fls : List (List Str)} {f : Str} {m : ME} {old : Option R} {fs : List D} {l : List Str}
theorem sRaiseI_ap : sRaiseI c n ps dfl ms ρ μ = exThen (mArgs ms ρ μ) ρ (rsK c n ps dfl ρ) := Eq.trans rfl rfl
theorem rsK_1 : rsK c 1 [a, b] [] ρ [.val d] μ = some (.ex (.own c [d]), ρ, μ) := Eq.trans rfl rfl
theorem rsK_11 : rsK c 1 [a, b, b2] [e] ρ [.val d] μ = some (.ex (.own c [e, d]), ρ, μ) := Eq.trans rfl rfl
theorem rsK_2 : rsK c 2 [a, b, b2] [e] ρ [.val d, .val d2] μ = some (.ex (.own c [d2, d]), ρ, μ) := Eq.trans rfl rfl
theorem mAttrX_ap : mAttrX xfl fls f m ρ μ = atXK xfl f (mAttr fls f m ρ μ) (m ρ μ) := Eq.trans rfl rfl
theorem atXK_exc : atXK xfl f old (some (.ok (.val (.exc c fs)), μ)) = atX xfl f c fs μ := Eq.trans rfl rfl
theorem atXK_non : atXK xfl f old (some (.ok (.val .non), μ)) = old := Eq.trans rfl rfl
theorem atX_ap (h : xfl.lookup c = some l) (h2 : (l.zip (d :: fs)).lookup f = some e) : atX xfl f c (d :: fs) μ = some (.ok (.val e), μ) := by
  unfold atX
  rw [h]
  dsimp only
  rw [h2]
end
end Sz

set_option linter.all false
set_option maxRecDepth 100000
namespace Sz
open PySem PySem.Spec L2
def ev := And.intro @mVar_ap (And.intro @slotM_some (And.intro @mK_ap (And.intro @andThen_ok (And.intro @andThen_if (And.intro @exThen_ok (And.intro @exThen_if (And.intro @vw_val (And.intro @vw_fr (And.intro @vw_cell (And.intro @cellV_lst (And.intro @cellV_frz (And.intro @rt_val (And.intro @rt_fr (And.intro @rt_cell (And.intro @fin2_ap (And.intro @fin2K_some (And.intro @opK_some (And.intro @fin1_ap (And.intro @op1K_some (And.intro @mOp2_ap (And.intro @mOp1_ap (And.intro @add_ii (And.intro @sub_ii (And.intro @neg_i (And.intro @not_b (And.intro @lt_ii (And.intro @le_ii (And.intro @gt_ii (And.intro @ge_ii (And.intro @eq_ii (And.intro @ne_ii (And.intro @ix_lst (And.intro @Sz.ix_tup (And.intro @ix_scr (And.intro @omap_some (And.intro @atI0 (And.intro @atI1 (And.intro @atI2 (And.intro @bl?_bl (And.intro @tBl_ap (And.intro @tBlK_some (And.intro @tNotM_ap (And.intro @tAndM_ap (And.intro @tOrM_ap (And.intro @tTrue_ap (And.intro @mIf_ap (And.intro @mAnd_ap (And.intro @mOr_ap (And.intro @andK_some (And.intro @orK_some (And.intro @mArgs_nil (And.intro @mArgs_cons (And.intro @mOwns_nil (And.intro @mOwns_cons (And.intro @mList_ap (And.intro @mTup_ap (And.intro @mCallB_ap (And.intro @finL1 (And.intro @finL2 (And.intro @finL3 (And.intro @finL4 (And.intro @finL5 (And.intro @finL6 (And.intro @finL7 (And.intro @finL8 (And.intro @finL9 (And.intro @finL10 (And.intro @finL11 (And.intro @finL12 (And.intro @finL13 (And.intro @finL14 (And.intro @finL15 (And.intro @finL16 (And.intro @finT1 (And.intro @finT2 (And.intro @finT3 (And.intro @finT4 (And.intro @finT5 (And.intro @finT6 (And.intro @finT7 (And.intro @finT8 (And.intro @vwK_some (And.intro @vws_nil (And.intro @vws_cons (And.intro @opsK_some (And.intro @finB_ap (And.intro @len_scr (And.intro @len_lst (And.intro @len_tup (And.intro @abs_i (And.intro @min_ii (And.intro @max_ii (And.intro @int_b (And.intro @int_i (And.intro @seqK_nx (And.intro @seqK_rt (And.intro @seqK_ex (And.intro @seqK_bk (And.intro @seqK_ct (And.intro @seqK_if (And.intro @sSeq_ap (And.intro @sNil_ap (And.intro @sPass_ap (And.intro @sBreak_ap (And.intro @sCont_ap (And.intro @sRet_ap (And.intro @sRetN_ap (And.intro @sIf_ap (And.intro @sExpr_ap (And.intro @nxK_some (And.intro @sAsg_ap (And.intro @gNm_ap (And.intro @own_false (And.intro @own_val (And.intro @own_cell (And.intro @own_fr (And.intro @sPar2_ap (And.intro @sPar3_ap (And.intro @par2K_ap (And.intro @par3K_ap (And.intro @gVals_nil (And.intro @gVK_some (And.intro @gVals_cons (And.intro @gTu_tup (And.intro @gTu_lst (And.intro @gTu_fr (And.intro @finF_nx (And.intro @finF_ex (And.intro @finF_rt (And.intro @finR_val (And.intro @finR_fr (And.intro @finF_if (And.intro @mCallF_ap (And.intro @mMake_ap (And.intro @mMeth_ap (And.intro @clsOf_obj (And.intro @mAttr_ap (And.intro @finA_obj (And.intro @ite_true' (And.intro @ite_false' (And.intro @ite_T (And.intro @ite_F (And.intro @sFor_ap (And.intro @iVal_ap (And.intro @finI_lst (And.intro @finI_fr (And.intro @finI_tup (And.intro @mLm_ap (And.intro @lmK_cell (And.intro @isLst_lst (And.intro @finLm0 (And.intro @finLm1 (And.intro @finLm2 (And.intro @lm3K_lst (And.intro @lm4K_some (And.intro @get_end (And.intro @set_end (And.intro @is_non (And.intro @isnot_non (And.intro @isNon_non (And.intro @isNon_int (And.intro @isNon_tup (And.intro @isNon_obj (And.intro @eq_bb (And.intro @mSl_ap (And.intro @oNone_ap (And.intro @oSome_ap (And.intro @intK_some (And.intro @slK_some (And.intro @slK2_some (And.intro @tuple_lst (And.intro @tuple_tup (And.intro @mOwnE_ap (And.intro @mChain_ap (And.intro @chK_some (And.intro @flOf_some (And.intro @flOf_none (And.intro @list_lst (And.intro @list_tup (And.intro @sFrz_ap (And.intro @mStepL_ap (And.intro @mCallBK_ap (And.intro @bK_some (And.intro @finBK_ap (And.intro @mSm1_ap (And.intro @sm1K_str (And.intro @mOpA_ap (And.intro @finV_val (And.intro @finVK_some (And.intro @andThen_err (And.intro @exThen_err (And.intro @sTry_ap (And.intro @tryK_nx (And.intro @tryK_rt (And.intro @tryK_ex (And.intro @exSel_nil (And.intro @exSel_cons (And.intro @exSelK_t (And.intro @exSelK_f (And.intro @tryX_cl (And.intro @tryX_out (And.intro @clFin_nx (And.intro @clFin_rt (And.intro @putE_some (And.intro @putE_non (And.intro @sRaise_ap (And.intro @finM_err (And.intro @mDicK_ap (And.intro @mPotL_ap (And.intro @finPot2 (And.intro @own_pot (And.intro @sRaiseI_ap (And.intro @rsK_1 (And.intro @rsK_11 (And.intro @rsK_2 (And.intro @mAttrX_ap (@atXK_exc)))))))))))))))))))))))))))))))))))))))))))))))))))))))))))))))))))))))))))))))))))))))))))))))))))))))))))))))))))))))))))))))))))))))))))))))))))))))))))))))))))))))))))))))))))))))))))))))))))))))))))))))))))))))))
end Sz

set_option Elab.async false
set_option linter.all false
set_option maxRecDepth 100000
set_option maxHeartbeats 4000000
/-! the codes -/
namespace Law
open PySem PySem.Spec L2 Sz
abbrev tCls : List Str := ["Measure", "Ladder", "NoMeasure", "NoBottom", "NoLadder", "Slip"]
def tX : XTab := ⟨[(2, ("NoMeasure", 0)), (3, ("NoBottom", 1)), (4, ("NoLadder", 0))], [((2, 5), false), ((3, 5), false), ((4, 5), false), ((5, 5), true)], [], []⟩
abbrev tFls : List (List Str) := [["top", "bottom"], ["marks", "rule", "least", "most"]]
def tXi : XIs := [(5, ⟨"Slip", 0, "LadderError", ["row"]⟩)]
abbrev tFlsX : List (List Str) := tFls ++ ([[], [], [], ["row"]] : List (List Str))
abbrev nCls : Nat := 2
abbrev tFns : List Str := ["up_size", "down_size", "near_size", "SIZES"]
abbrev lTabs : List (Nat × Tab) := [(3, [("up", .fn 0), ("down", .fn 1), ("near", .fn 2)])]
abbrev tTabs : Nat → Option Tab := tabsOf lTabs
def tCis : List (Str × Int) := [("MOST_MARKS", 24)]
def tCss : List (Str × Str) := []
abbrev nKit : Nat := 2
abbrev subK : Nat → Nat → Bool := fun a b => a == b
noncomputable def c_l_take : MS := sSeq (sIf (tBl (mOp2 dGt (mOp2 dIx (mVar 0) (mK (.int 0))) (mK (.int 0)))) (sSeq (sAsg (gNm 2 false) (mOp2 dMod (mOp2 dIx (mVar 0) (mK (.int 0))) (mVar 1))) (sSeq (sAsg (gSubM (mVar 0) (mK (.int 0))) (mOp2 dFdiv (mOp2 dIx (mVar 0) (mK (.int 0))) (mVar 1))) (sSeq (sRet (mVar 2)) sNil))) sNil) (sSeq (sAsg (gNm 3 false) (mOp2 dAdd (mOp2 dIx (mVar 0) (mK (.int 2))) (mK (.int 1)))) (sSeq (sAsg (gSubM (mVar 0) (mK (.int 2))) (mVar 3)) (sSeq (sAsg (gNm 4 false) (mOp2 dIx (mList [mK (.int 2305843009213693951), mK (.int 999999999989), mK (.int 1000000000039), mK (.int 67280421310721)]) (mOp2 dMod (mVar 3) (mK (.int 4))))) (sSeq (sAsg (gNm 5 false) (mOp2 dMod (mOp2 dAdd (mOp2 dAdd (mOp2 dIx (mVar 0) (mK (.int 1))) (mOp2 dMul (mOp2 dMul (mK (.int 7919)) (mVar 3)) (mVar 3))) (mOp2 dMul (mK (.int 65537)) (mVar 3))) (mVar 4))) (sSeq (sAsg (gNm 5 false) (mOp2 dMod (mOp2 dPow (mVar 5) (mK (.int 5))) (mVar 4))) (sSeq (sRet (mOp2 dMod (mOp2 dAdd (mOp2 dFdiv (mVar 5) (mK (.int 4099))) (mOp2 dMul (mOp2 dFdiv (mVar 5) (mK (.int 1000003))) (mK (.int 7)))) (mVar 1))) sNil))))))
noncomputable def fi_l_take : FnI := ⟨["_law_hand_here", "_law_many"], ([] : List D), fnSem 6 c_l_take⟩
noncomputable def c_l_of : MS := sSeq (sRet (mOp2 dIx (mVar 1) (mCallF fi_l_take 2 [] [mVar 0, mCallB bLen [mVar 1]] []))) sNil
noncomputable def fi_l_of : FnI := ⟨["_law_hand_here", "_law_some"], ([] : List D), fnSem 2 c_l_of⟩
noncomputable def c_l_rows_b1 : MS := sSeq (sExpr (mLm lApp (mVar 4) [mOp2 dIx (mList [mVar 5, mVar 5, mVar 5, mVar 5, mCallF fi_l_take 2 [] [mVar 0, mK (.int 5)] [], mOp2 dSub (mCallF fi_l_take 2 [] [mVar 0, mK (.int 40)] []) (mK (.int 20)), mOp2 dSub (mK (.int 0)) (mVar 5)]) (mVar 1)])) (sSeq (sAsg (gNm 5 false) (mOp2 dAdd (mOp2 dAdd (mVar 5) (mK (.int 1))) (mCallF fi_l_of 2 [] [mVar 0, mList [mK (.int 0), mK (.int 0), mCallF fi_l_take 2 [] [mVar 0, mOp2 dMul (mK (.int 4)) (mVar 2)] []]] []))) sNil)
noncomputable def c_l_rows : MS := sSeq (sPar2 1 2 [(false, mCallF fi_l_take 2 [] [mVar 0, mK (.int 7)] []), (false, mCallF fi_l_of 2 [] [mVar 0, mList [mK (.int 1), mK (.int 2), mK (.int 3), mK (.int 12), mK (.int 10007)]] [])]) (sSeq (sAsg (gNm 3 false) (mCallF fi_l_of 2 [] [mVar 0, mList [mK (.int 1), mK (.int 2), mK (.int 3), mK (.int 4), mK (.int 6), mK (.int 9), mK (.int 24)]] [])) (sSeq (sPar2 4 5 [(true, mList []), (false, mOp2 dSub (mCallF fi_l_take 2 [] [mVar 0, mK (.int 9)] []) (mK (.int 4)))]) (sSeq (sFor (iRange1 (mVar 3)) (gNm 6 false) c_l_rows_b1) (sSeq (sPar2 7 8 [(false, mCallF fi_l_take 2 [] [mVar 0, mVar 3] []), (false, mCallF fi_l_take 2 [] [mVar 0, mVar 3] [])]) (sSeq (sIf (tBl (mOp2 dEq (mVar 1) (mK (.int 1)))) (sSeq (sAsg (gTu [gSubM (mVar 4) (mVar 7), gSubM (mVar 4) (mVar 8)]) (mTup [mOp2 dIx (mVar 4) (mVar 8), mOp2 dIx (mVar 4) (mVar 7)])) sNil) sNil) (sSeq (sIf (tBl (mOp2 dEq (mVar 1) (mK (.int 2)))) (sSeq (sExpr (mLm lIns (mVar 4) [mVar 8, mLm lPopAt (mVar 4) [mVar 7]])) sNil) sNil) (sSeq (sIf (tBl (mOp2 dEq (mVar 1) (mK (.int 3)))) (sSeq (sAsg (gSubM (mVar 4) (mVar 7)) (mOp2 dAdd (mOp2 dIx (mVar 4) (mVar 8)) (mCallF fi_l_of 2 [] [mVar 0, mList [mK (.int 0), mK (.int 0), mK (.int 1), mOp1 dNeg (mK (.int 1)), mK (.int 99)]] []))) sNil) sNil) (sSeq (sRet (mTup [mVar 2, mCallB bTuple [mVar 4]])) sNil))))))))
noncomputable def fi_l_rows : FnI := ⟨["_law_hand_here"], ([] : List D), fnSem 9 c_l_rows⟩
noncomputable def c_l_hand : MS := sSeq (sAsg (gNm 2 false) (mK (.int 0))) (sSeq (sIf (tBl (mOp2 dLt (mVar 1) (mCallB bLen [mVar 0]))) (sSeq (sAsg (gNm 2 false) (mOp2 dIx (mVar 0) (mVar 1))) sNil) sNil) (sSeq (sAsg (gNm 3 false) (mCallB bAbs [mVar 2])) (sSeq (sIf (tBl (mOp2 dLt (mVar 3) (mOp2 dPow (mK (.int 10)) (mK (.int 18))))) (sSeq (sAsg (gNm 3 false) (mK (.int 0))) sNil) sNil) (sSeq (sRet (mList [mVar 3, mOp2 dAdd (mOp2 dAdd (mOp2 dMod (mVar 2) (mK (.int 2305843009213693951))) (mOp2 dMul (mK (.int 104729)) (mVar 1))) (mK (.int 61)), mK (.int 0)])) sNil))))
noncomputable def fi_l_hand : FnI := ⟨["_law_script", "_law_k"], ([] : List D), fnSem 4 c_l_hand⟩
noncomputable def c_is_whole : MS := sSeq (sRet (mAnd (mCallB (bIsi nKit nKit subK) [mVar 0, mK (.ty "int")]) (mOp1 dNot (mCallB (bIsi nKit nKit subK) [mVar 0, mK (.ty "bool")])))) sNil
noncomputable def fi_is_whole : FnI := ⟨["thing"], ([] : List D), fnSem 1 c_is_whole⟩
noncomputable def c_common_part_b1 : MS := sSeq (sPar2 0 1 [(false, mVar 1), (false, mOp2 dMod (mVar 0) (mVar 1))]) sNil
noncomputable def c_common_part : MS := sSeq (sWhile (tBl (mOp2 dGt (mVar 1) (mK (.int 0)))) c_common_part_b1) (sSeq (sRet (mVar 0)) sNil)
noncomputable def fi_common_part : FnI := ⟨["many", "few"], ([] : List D), fnSem 2 c_common_part⟩
noncomputable def c_Measure___init__ : MS := sSeq (sIf (tOrM (tNotM (tBl (mCallF fi_is_whole 1 [] [mVar 1] []))) (tNotM (tBl (mCallF fi_is_whole 1 [] [mVar 2] [])))) (sSeq (sRaise 2) sNil) sNil) (sSeq (sIf (tBl (mOp2 dEq (mVar 2) (mK (.int 0)))) (sSeq (sRaise 3) sNil) sNil) (sSeq (sAsg (gNm 3 false) (mCallF fi_common_part 2 [] [mCallB bAbs [mVar 1], mCallB bAbs [mVar 2]] [])) (sSeq (sIf (tBl (mOp2 dLt (mVar 2) (mK (.int 0)))) (sSeq (sAsg (gNm 3 false) (mOp2 dSub (mK (.int 0)) (mVar 3))) sNil) sNil) (sSeq (sFldM nCls "top" (mVar 0) (mOp2 dFdiv (mVar 1) (mVar 3))) (sSeq (sFldM nCls "bottom" (mVar 0) (mOp2 dFdiv (mVar 2) (mVar 3))) sNil)))))
noncomputable def fi_Measure___init__ : FnI := ⟨["self", "top", "bottom"], ([.int 1] : List D), fnSem 4 c_Measure___init__⟩
noncomputable def mk_Measure : MkI := ⟨0, ["top", "bottom"], fi_Measure___init__⟩
noncomputable def c_l_made : MS := sSeq (sRet (mCallB bTuple [mComp (iVal (mOp2 dIx (mVar 0) (mK (.int 1)))) (gNm 1 false) tTrue (mMake mk_Measure 2 [] [mVar 1, mOp2 dIx (mVar 0) (mK (.int 0))] []) [1]])) sNil
noncomputable def fi_l_made : FnI := ⟨["_law_its_rows"], ([] : List D), fnSem 2 c_l_made⟩
noncomputable def c_l_due_b1 : MS := sSeq (sIf (tBl (mOp2 dLe (mOp2 dIx (mVar 0) (mVar 1)) (mOp2 dIx (mVar 0) (mOp2 dSub (mVar 1) (mK (.int 1)))))) (sSeq (sRet (mVar 1)) sNil) sNil) sNil
noncomputable def c_l_due : MS := sSeq (sFor (iRange2 (mK (.int 1)) (mCallB bLen [mVar 0])) (gNm 1 false) c_l_due_b1) (sSeq (sRet (mK .non)) sNil)
noncomputable def fi_l_due : FnI := ⟨["_law_tops"], ([] : List D), fnSem 2 c_l_due⟩
noncomputable def c_Measure_is_below : MS := sSeq (sPar2 3 4 [(false, mOp2 dMul (mAttr tFls "top" (mVar 0)) (mAttr tFls "bottom" (mVar 1))), (false, mOp2 dMul (mAttr tFls "top" (mVar 1)) (mAttr tFls "bottom" (mVar 0)))]) (sSeq (sRet (mOr (mOp2 dLt (mVar 3) (mVar 4)) (mAnd (mVar 2) (mOp2 dEq (mVar 3) (mVar 4))))) sNil)
noncomputable def fi_Measure_is_below : FnI := ⟨["self", "other", "alike"], ([.bl false] : List D), fnSem 5 c_Measure_is_below⟩
noncomputable def mt_is_below : Nat → Option FnI
  | 0 => some fi_Measure_is_below
  | _ => none
noncomputable def c_first_slip_b1 : MS := sSeq (sIf (tNotM (tBl (mMeth "is_below" mt_is_below 1 [] (mOp2 dIx (mVar 0) (mOp2 dSub (mVar 1) (mK (.int 1)))) [mOp2 dIx (mVar 0) (mVar 1)] []))) (sSeq (sRet (mVar 1)) sNil) sNil) sNil
noncomputable def c_first_slip : MS := sSeq (sFor (iRange2 (mK (.int 1)) (mCallB bLen [mVar 0])) (gNm 1 false) c_first_slip_b1) (sSeq (sRet (mK .non)) sNil)
noncomputable def fi_first_slip : FnI := ⟨["rows"], ([] : List D), fnSem 2 c_first_slip⟩
noncomputable def c_slip_of : MS := sSeq (sRet (mCallF fi_first_slip 1 [] [mVar 0] [])) sNil
noncomputable def fi_slip_of : FnI := ⟨["rows"], ([] : List D), fnSem 1 c_slip_of⟩
noncomputable def c_are_measures : MS := sSeq (sIf (tOrM (tNotM (tBl (mCallB (bIsi nKit nKit subK) [mVar 0, mK (.ty "tuple")]))) (tNotM (tBl (mChain dLe dLe (mVar 1) (mCallB bLen [mVar 0]) (mVar 2))))) (sSeq (sRet (mK (.bl false))) sNil) sNil) (sSeq (sRet (mCallB bAll [mComp (iVal (mVar 0)) (gNm 3 false) tTrue (mCallB (bIsi nKit nKit subK) [mVar 3, mK (.cls 0)]) [3]])) sNil)
noncomputable def fi_are_measures : FnI := ⟨["thing", "fewest", "most"], ([] : List D), fnSem 4 c_are_measures⟩
noncomputable def c_is_rule : MS := sSeq (sRet (mAnd (mCallB (bIsi nKit nKit subK) [mVar 0, mK (.ty "str")]) (mOp2 (dInT tTabs) (mVar 0) (mK (.fn 3))))) sNil
noncomputable def fi_is_rule : FnI := ⟨["thing"], ([] : List D), fnSem 1 c_is_rule⟩
noncomputable def c_is_measure_or_none : MS := sSeq (sRet (mOr (mOp2 dIs (mVar 0) (mK .non)) (mCallB (bIsi nKit nKit subK) [mVar 0, mK (.cls 0)]))) sNil
noncomputable def fi_is_measure_or_none : FnI := ⟨["thing"], ([] : List D), fnSem 1 c_is_measure_or_none⟩
noncomputable def c_Ladder___init__ : MS := sSeq (sIf (tOrM (tNotM (tBl (mCallF fi_are_measures 3 [] [mVar 1, mK (.int 1), mK (.int 24)] []))) (tNotM (tBl (mCallF fi_is_rule 1 [] [mVar 2] [])))) (sSeq (sRaise 4) sNil) sNil) (sSeq (sIf (tOrM (tNotM (tBl (mCallF fi_is_measure_or_none 1 [] [mVar 3] []))) (tNotM (tBl (mCallF fi_is_measure_or_none 1 [] [mVar 4] [])))) (sSeq (sRaise 4) sNil) sNil) (sSeq (sIf (tAndM (tBl (mOp2 dIsNot (mVar 3) (mK .non))) (tAndM (tBl (mOp2 dIsNot (mVar 4) (mK .non))) (tBl (mMeth "is_below" mt_is_below 1 [] (mVar 4) [mVar 3] [])))) (sSeq (sRaise 4) sNil) sNil) (sSeq (sAsg (gNm 5 false) (mCallF fi_first_slip 1 [] [mVar 1] [])) (sSeq (sIf (tBl (mOp2 dIsNot (mVar 5) (mK .non))) (sSeq (sRaiseI 5 1 ["self", "row"] ([] : List D) [mVar 5]) sNil) sNil) (sSeq (sFldM nCls "marks" (mVar 0) (mVar 1)) (sSeq (sFldM nCls "rule" (mVar 0) (mVar 2)) (sSeq (sFldM nCls "least" (mVar 0) (mVar 3)) (sSeq (sFldM nCls "most" (mVar 0) (mVar 4)) sNil))))))))
noncomputable def fi_Ladder___init__ : FnI := ⟨["self", "marks", "rule", "least", "most"], ([.str "up", .non, .non] : List D), fnSem 6 c_Ladder___init__⟩
noncomputable def mk_Ladder : MkI := ⟨1, ["marks", "rule", "least", "most"], fi_Ladder___init__⟩
noncomputable def c_l_row_b1 : MS := sSeq (sAsg (gNm 1 false) (mVar 2)) sNil
noncomputable def c_l_row_b2 : MS := sSeq (sExpr (mMake mk_Ladder 1 [] [mVar 0] [])) sNil
noncomputable def c_l_row : MS := sSeq (sAsg (gNm 1 false) (mK .non)) (sSeq (sTry tX.exmF c_l_row_b2 [⟨5, some 2, c_l_row_b1⟩]) (sSeq (sRet (mIf (tBl (mOp2 dIs (mVar 1) (mK .non))) (mK .non) (mAttrX (xflOf tXi) tFls "row" (mVar 1)))) sNil))
noncomputable def fi_l_row : FnI := ⟨["_law_its_rows"], ([] : List D), fnSem 3 c_l_row⟩
noncomputable def c_law_b1 : MS := sSeq (sAsg (gNm 2 false) (mCallF fi_l_rows 1 [] [mOwnE (mCallF fi_l_hand 2 [] [mVar 0, mVar 1] [])] [])) (sSeq (sPar2 3 4 [(false, mCallF fi_l_made 1 [] [mVar 2] []), (false, mCallF fi_l_due 1 [] [mOp2 dIx (mVar 2) (mK (.int 1))] [])]) (sSeq (sIf (tOrM (tBl (mOp2 dNe (mCallB bRepr [mCallF fi_slip_of 1 [] [mVar 3] []]) (mCallB bRepr [mVar 4]))) (tBl (mOp2 dNe (mCallB bRepr [mCallF fi_slip_of 0 ["rows"] [] [mVar 3]]) (mCallB bRepr [mVar 4])))) (sSeq (sRet (mK (.bl false))) sNil) sNil) (sSeq (sIf (tBl (mOp2 dNe (mCallB bRepr [mCallF fi_l_row 1 [] [mVar 3] []]) (mCallB bRepr [mVar 4]))) (sSeq (sRet (mK (.bl false))) sNil) sNil) sNil)))
noncomputable def c_law : MS := sSeq (sFor (iRange1 (mCallB bMax [mK (.int 1), mCallB bMin [mK (.int 5), mCallB bLen [mVar 0]]])) (gNm 1 false) c_law_b1) (sSeq (sRet (mK (.bl true))) sNil)
noncomputable def fi_law : FnI := ⟨["_law_script"], ([] : List D), fnSem 5 c_law⟩
theorem sem_l_take {x0 x1 : S} {μ : Sto} : fi_l_take.sem [x0, x1] μ = finF μ.length (c_l_take [some x0, some x1, none, none, none, none] μ) := (congrFun (congrFun (show fi_l_take.sem = fnSem 6 c_l_take from rfl) _) _).trans fnS_2_4
theorem cl_l_take_2 {x0 x1 : S} {μ : Sto} : callF fi_l_take 2 [] [x0, x1] [] μ = fi_l_take.sem [x0, x1] μ := callF_eq rfl rfl rfl
theorem sem_l_of {x0 x1 : S} {μ : Sto} : fi_l_of.sem [x0, x1] μ = finF μ.length (c_l_of [some x0, some x1] μ) := (congrFun (congrFun (show fi_l_of.sem = fnSem 2 c_l_of from rfl) _) _).trans fnS_2_0
theorem cl_l_of_2 {x0 x1 : S} {μ : Sto} : callF fi_l_of 2 [] [x0, x1] [] μ = fi_l_of.sem [x0, x1] μ := callF_eq rfl rfl rfl
theorem sem_l_rows {x0 : S} {μ : Sto} : fi_l_rows.sem [x0] μ = finF μ.length (c_l_rows [some x0, none, none, none, none, none, none, none, none] μ) := (congrFun (congrFun (show fi_l_rows.sem = fnSem 9 c_l_rows from rfl) _) _).trans fnS_1_8
theorem cl_l_rows_1 {x0 : S} {μ : Sto} : callF fi_l_rows 1 [] [x0] [] μ = fi_l_rows.sem [x0] μ := callF_eq rfl rfl rfl
theorem sem_l_hand {x0 x1 : S} {μ : Sto} : fi_l_hand.sem [x0, x1] μ = finF μ.length (c_l_hand [some x0, some x1, none, none] μ) := (congrFun (congrFun (show fi_l_hand.sem = fnSem 4 c_l_hand from rfl) _) _).trans fnS_2_2
theorem cl_l_hand_2 {x0 x1 : S} {μ : Sto} : callF fi_l_hand 2 [] [x0, x1] [] μ = fi_l_hand.sem [x0, x1] μ := callF_eq rfl rfl rfl
theorem sem_is_whole {x0 : S} {μ : Sto} : fi_is_whole.sem [x0] μ = finF μ.length (c_is_whole [some x0] μ) := (congrFun (congrFun (show fi_is_whole.sem = fnSem 1 c_is_whole from rfl) _) _).trans fnS_1_0
theorem cl_is_whole_1 {x0 : S} {μ : Sto} : callF fi_is_whole 1 [] [x0] [] μ = fi_is_whole.sem [x0] μ := callF_eq rfl rfl rfl
theorem sem_common_part {x0 x1 : S} {μ : Sto} : fi_common_part.sem [x0, x1] μ = finF μ.length (c_common_part [some x0, some x1] μ) := (congrFun (congrFun (show fi_common_part.sem = fnSem 2 c_common_part from rfl) _) _).trans fnS_2_0
theorem cl_common_part_2 {x0 x1 : S} {μ : Sto} : callF fi_common_part 2 [] [x0, x1] [] μ = fi_common_part.sem [x0, x1] μ := callF_eq rfl rfl rfl
theorem sem_Measure___init__ {x0 x1 x2 : S} {μ : Sto} : fi_Measure___init__.sem [x0, x1, x2] μ = finF μ.length (c_Measure___init__ [some x0, some x1, some x2, none] μ) := (congrFun (congrFun (show fi_Measure___init__.sem = fnSem 4 c_Measure___init__ from rfl) _) _).trans fnS_3_1
theorem cl_Measure___init___3 {x0 x1 x2 : S} {μ : Sto} : callF fi_Measure___init__ 3 [] [x0, x1, x2] [] μ = fi_Measure___init__.sem [x0, x1, x2] μ := callF_eq rfl rfl rfl
theorem sem_l_made {x0 : S} {μ : Sto} : fi_l_made.sem [x0] μ = finF μ.length (c_l_made [some x0, none] μ) := (congrFun (congrFun (show fi_l_made.sem = fnSem 2 c_l_made from rfl) _) _).trans fnS_1_1
theorem cl_l_made_1 {x0 : S} {μ : Sto} : callF fi_l_made 1 [] [x0] [] μ = fi_l_made.sem [x0] μ := callF_eq rfl rfl rfl
theorem sem_l_due {x0 : S} {μ : Sto} : fi_l_due.sem [x0] μ = finF μ.length (c_l_due [some x0, none] μ) := (congrFun (congrFun (show fi_l_due.sem = fnSem 2 c_l_due from rfl) _) _).trans fnS_1_1
theorem cl_l_due_1 {x0 : S} {μ : Sto} : callF fi_l_due 1 [] [x0] [] μ = fi_l_due.sem [x0] μ := callF_eq rfl rfl rfl
theorem sem_Measure_is_below {x0 x1 x2 : S} {μ : Sto} : fi_Measure_is_below.sem [x0, x1, x2] μ = finF μ.length (c_Measure_is_below [some x0, some x1, some x2, none, none] μ) := (congrFun (congrFun (show fi_Measure_is_below.sem = fnSem 5 c_Measure_is_below from rfl) _) _).trans fnS_3_2
theorem cl_Measure_is_below_2 {x0 x1 : S} {μ : Sto} : callF fi_Measure_is_below 2 [] [x0, x1] [] μ = fi_Measure_is_below.sem [x0, x1, .val (.bl false)] μ := callF_eq rfl rfl rfl
theorem sem_first_slip {x0 : S} {μ : Sto} : fi_first_slip.sem [x0] μ = finF μ.length (c_first_slip [some x0, none] μ) := (congrFun (congrFun (show fi_first_slip.sem = fnSem 2 c_first_slip from rfl) _) _).trans fnS_1_1
theorem cl_first_slip_1 {x0 : S} {μ : Sto} : callF fi_first_slip 1 [] [x0] [] μ = fi_first_slip.sem [x0] μ := callF_eq rfl rfl rfl
theorem sem_slip_of {x0 : S} {μ : Sto} : fi_slip_of.sem [x0] μ = finF μ.length (c_slip_of [some x0] μ) := (congrFun (congrFun (show fi_slip_of.sem = fnSem 1 c_slip_of from rfl) _) _).trans fnS_1_0
theorem cl_slip_of_1 {x0 : S} {μ : Sto} : callF fi_slip_of 1 [] [x0] [] μ = fi_slip_of.sem [x0] μ := callF_eq rfl rfl rfl
theorem cl_slip_of_0_rows {x0 : S} {μ : Sto} : callF fi_slip_of 0 ["rows"] [] [x0] μ = fi_slip_of.sem [x0] μ := callF_eq rfl rfl rfl
theorem sem_are_measures {x0 x1 x2 : S} {μ : Sto} : fi_are_measures.sem [x0, x1, x2] μ = finF μ.length (c_are_measures [some x0, some x1, some x2, none] μ) := (congrFun (congrFun (show fi_are_measures.sem = fnSem 4 c_are_measures from rfl) _) _).trans fnS_3_1
theorem cl_are_measures_3 {x0 x1 x2 : S} {μ : Sto} : callF fi_are_measures 3 [] [x0, x1, x2] [] μ = fi_are_measures.sem [x0, x1, x2] μ := callF_eq rfl rfl rfl
theorem sem_is_rule {x0 : S} {μ : Sto} : fi_is_rule.sem [x0] μ = finF μ.length (c_is_rule [some x0] μ) := (congrFun (congrFun (show fi_is_rule.sem = fnSem 1 c_is_rule from rfl) _) _).trans fnS_1_0
theorem cl_is_rule_1 {x0 : S} {μ : Sto} : callF fi_is_rule 1 [] [x0] [] μ = fi_is_rule.sem [x0] μ := callF_eq rfl rfl rfl
theorem sem_is_measure_or_none {x0 : S} {μ : Sto} : fi_is_measure_or_none.sem [x0] μ = finF μ.length (c_is_measure_or_none [some x0] μ) := (congrFun (congrFun (show fi_is_measure_or_none.sem = fnSem 1 c_is_measure_or_none from rfl) _) _).trans fnS_1_0
theorem cl_is_measure_or_none_1 {x0 : S} {μ : Sto} : callF fi_is_measure_or_none 1 [] [x0] [] μ = fi_is_measure_or_none.sem [x0] μ := callF_eq rfl rfl rfl
theorem sem_Ladder___init__ {x0 x1 x2 x3 x4 : S} {μ : Sto} : fi_Ladder___init__.sem [x0, x1, x2, x3, x4] μ = finF μ.length (c_Ladder___init__ [some x0, some x1, some x2, some x3, some x4, none] μ) := (congrFun (congrFun (show fi_Ladder___init__.sem = fnSem 6 c_Ladder___init__ from rfl) _) _).trans fnS_5_1
theorem cl_Ladder___init___2 {x0 x1 : S} {μ : Sto} : callF fi_Ladder___init__ 2 [] [x0, x1] [] μ = fi_Ladder___init__.sem [x0, x1, .val (.str "up"), .val (.non), .val (.non)] μ := callF_eq rfl rfl rfl
theorem sem_l_row {x0 : S} {μ : Sto} : fi_l_row.sem [x0] μ = finF μ.length (c_l_row [some x0, none, none] μ) := (congrFun (congrFun (show fi_l_row.sem = fnSem 3 c_l_row from rfl) _) _).trans fnS_1_2
theorem cl_l_row_1 {x0 : S} {μ : Sto} : callF fi_l_row 1 [] [x0] [] μ = fi_l_row.sem [x0] μ := callF_eq rfl rfl rfl
theorem sem_law {x0 : S} {μ : Sto} : fi_law.sem [x0] μ = finF μ.length (c_law [some x0, none, none, none, none] μ) := (congrFun (congrFun (show fi_law.sem = fnSem 5 c_law from rfl) _) _).trans fnS_1_4
theorem cl_law_1 {x0 : S} {μ : Sto} : callF fi_law 1 [] [x0] [] μ = fi_law.sem [x0] μ := callF_eq rfl rfl rfl
end Law

set_option Elab.async false
set_option linter.all false
set_option maxRecDepth 100000
set_option maxHeartbeats 4000000
/-! the walk -/
namespace Law
open PySem PySem.Spec L2 Sz
abbrev top (i : Nat) : Stmt := PySem.Challenge.pw_sizeladders_k21_the_first_slip.main.body.getD i (.Pass ⟨0, 0, 0, 0⟩)
abbrev st_l_take : Stmt := top 27
def d_l_take : He.DefD := ⟨("_law_take", none), "_law_take", "_law_take", defArgs st_l_take, defBody st_l_take, defScope st_l_take, ([] : List D).map dvOf, []⟩
abbrev st_l_of : Stmt := top 28
def d_l_of : He.DefD := ⟨("_law_of", none), "_law_of", "_law_of", defArgs st_l_of, defBody st_l_of, defScope st_l_of, ([] : List D).map dvOf, []⟩
abbrev st_l_rows : Stmt := top 29
def d_l_rows : He.DefD := ⟨("_law_rows", none), "_law_rows", "_law_rows", defArgs st_l_rows, defBody st_l_rows, defScope st_l_rows, ([] : List D).map dvOf, []⟩
abbrev st_l_hand : Stmt := top 26
def d_l_hand : He.DefD := ⟨("_law_hand", none), "_law_hand", "_law_hand", defArgs st_l_hand, defBody st_l_hand, defScope st_l_hand, ([] : List D).map dvOf, []⟩
abbrev st_is_whole : Stmt := top 8
def d_is_whole : He.DefD := ⟨("is_whole", none), "is_whole", "is_whole", defArgs st_is_whole, defBody st_is_whole, defScope st_is_whole, ([] : List D).map dvOf, []⟩
abbrev st_common_part : Stmt := top 9
def d_common_part : He.DefD := ⟨("common_part", none), "common_part", "common_part", defArgs st_common_part, defBody st_common_part, defScope st_common_part, ([] : List D).map dvOf, []⟩
abbrev st_Measure___init__ : Stmt := inClass (top 10) 0
def d_Measure___init__ : He.DefD := ⟨("Measure", some "__init__"), "__init__", "Measure.__init__", defArgs st_Measure___init__, defBody st_Measure___init__, defScope st_Measure___init__, ([.int 1] : List D).map dvOf, []⟩
abbrev st_l_made : Stmt := top 30
def d_l_made : He.DefD := ⟨("_law_made", none), "_law_made", "_law_made", defArgs st_l_made, defBody st_l_made, defScope st_l_made, ([] : List D).map dvOf, []⟩
abbrev st_l_due : Stmt := top 31
def d_l_due : He.DefD := ⟨("_law_due", none), "_law_due", "_law_due", defArgs st_l_due, defBody st_l_due, defScope st_l_due, ([] : List D).map dvOf, []⟩
abbrev st_Measure_is_below : Stmt := inClass (top 10) 8
def d_Measure_is_below : He.DefD := ⟨("Measure", some "is_below"), "is_below", "Measure.is_below", defArgs st_Measure_is_below, defBody st_Measure_is_below, defScope st_Measure_is_below, ([.bl false] : List D).map dvOf, []⟩
abbrev st_first_slip : Stmt := top 16
def d_first_slip : He.DefD := ⟨("first_slip", none), "first_slip", "first_slip", defArgs st_first_slip, defBody st_first_slip, defScope st_first_slip, ([] : List D).map dvOf, []⟩
abbrev st_slip_of : Stmt := top 24
def d_slip_of : He.DefD := ⟨("slip_of", none), "slip_of", "slip_of", defArgs st_slip_of, defBody st_slip_of, defScope st_slip_of, ([] : List D).map dvOf, []⟩
abbrev st_are_measures : Stmt := top 15
def d_are_measures : He.DefD := ⟨("are_measures", none), "are_measures", "are_measures", defArgs st_are_measures, defBody st_are_measures, defScope st_are_measures, ([] : List D).map dvOf, []⟩
abbrev st_is_rule : Stmt := top 21
def d_is_rule : He.DefD := ⟨("is_rule", none), "is_rule", "is_rule", defArgs st_is_rule, defBody st_is_rule, defScope st_is_rule, ([] : List D).map dvOf, []⟩
abbrev st_is_measure_or_none : Stmt := top 14
def d_is_measure_or_none : He.DefD := ⟨("is_measure_or_none", none), "is_measure_or_none", "is_measure_or_none", defArgs st_is_measure_or_none, defBody st_is_measure_or_none, defScope st_is_measure_or_none, ([] : List D).map dvOf, []⟩
abbrev st_Ladder___init__ : Stmt := inClass (top 22) 0
def d_Ladder___init__ : He.DefD := ⟨("Ladder", some "__init__"), "__init__", "Ladder.__init__", defArgs st_Ladder___init__, defBody st_Ladder___init__, defScope st_Ladder___init__, ([.str "up", .non, .non] : List D).map dvOf, []⟩
abbrev st_l_row : Stmt := top 32
def d_l_row : He.DefD := ⟨("_law_row", none), "_law_row", "_law_row", defArgs st_l_row, defBody st_l_row, defScope st_l_row, ([] : List D).map dvOf, []⟩
abbrev st_law : Stmt := top 33
def d_law : He.DefD := ⟨("law", none), "law", "law", defArgs st_law, defBody st_law, defScope st_law, ([] : List D).map dvOf, []⟩
abbrev st_Slip___init__ : Stmt := inClass (top 5) 0
def d_Slip___init__ : He.DefD := ⟨("Slip", some "__init__"), "__init__", "Slip.__init__", defArgs st_Slip___init__, defBody st_Slip___init__, defScope st_Slip___init__, ([] : List D).map dvOf, []⟩
def tDefs : List He.DefD := ([d_l_take, d_l_of, d_l_rows, d_l_hand, d_is_whole, d_common_part, d_Measure___init__, d_l_made, d_l_due, d_Measure_is_below, d_first_slip, d_slip_of, d_are_measures, d_is_rule, d_is_measure_or_none, d_Ladder___init__, d_l_row, d_law, d_Slip___init__] : List He.DefD)
def tFrees : List Str := ["range", "len", "min", "max", "tuple", "abs", "int", "isinstance", "bool", "repr", "all", "str"]
def tGlobs : List Str := (["_law_take", "_law_of", "_law_hand", "_law_rows", "is_whole", "NoMeasure", "NoBottom", "common_part", "Measure", "_law_made", "_law_due", "first_slip", "slip_of", "are_measures", "is_rule", "NoLadder", "is_measure_or_none", "Slip", "LadderError", "Ladder"] : List Str) ++ (["_law_row", "law"] : List Str)
def tRest : List He.Fa := (([.cls "Measure", .cls "Ladder", .mkr "Measure", .mkr "Ladder", .noat "Measure" "top", .noat "Ladder" "top", .noat "Measure" "bottom", .noat "Ladder" "bottom", .noat "Measure" "marks", .noat "Ladder" "marks", .noat "Measure" "rule", .noat "Ladder" "rule", .noat "Measure" "least", .noat "Ladder" "least", .noat "Measure" "most", .noat "Ladder" "most", .noat "Measure" "row", .noat "Ladder" "row", .meth "Measure" "is_below"] : List He.Fa)) ++ (tCis.map (fun p => He.Fa.int p.1 p.2) ++ tCss.map fun p => He.Fa.str p.1 p.2)
def tNfs : List (Str × Str) := []
def tAns : List Str := []
def tNns : List Str := []
def tNes : List Str := []
def tChk (K : PySem.W.Frag) : Bool := kitB tCls nKit nKit subK K && (((tNfs.all fun p => PySem.W.notFirst K (He.ga K p.1) (.ref (He.ga K p.2))) && ((tNes.all fun c => PySem.W.findIn K (.ref (He.ga K c)) "__ne__" == some (some (.builtin "object.__ne__")) && PySem.W.mroIn K (He.ga K c) (.type "object") == some true) && ((tNns.all fun c => PySem.W.notFirst K (He.ga K c) (.type "NoneType") && PySem.W.subIn K (.ref (He.ga K c)) (.type "NoneType") == some false) && ((tAns.all fun c => tyNs.all fun T => PySem.W.notFirst K (He.ga K c) (.type T) && PySem.W.subIn K (.ref (He.ga K c)) (.type T) == some false) && (xtB tCls tX K && xiA tCls tXi K))))) && tabB tFns lTabs K)
abbrev Says (K : PySem.W.Frag) : Prop := SaysZ tChk (faOf tFrees tGlobs tRest) tDefs K
abbrev gq (K : PySem.W.Frag) : G := gOf tCls tFlsX K tFns
abbrev TX (K : PySem.W.Frag) (mg : Str → Option Value) (w : World) : Prop := TbX (gq K) mg w tFrees tGlobs tCis tCss tTabs tFns
theorem mkr_Measure {K : PySem.W.Frag} (S : Says K) : Mk (gq K).K ((gq K).cad 0) (He.ma K (He.ga K "Measure") "__init__") := He.mkr_ok (rest_ok S.says 2 rfl)
theorem mkr_Ladder {K : PySem.W.Frag} (S : Says K) : Mk (gq K).K ((gq K).cad 1) (He.ma K (He.ga K "Ladder") "__init__") := He.mkr_ok (rest_ok S.says 3 rfl)
theorem no_top {K : PySem.W.Frag} (S : Says K) : ∀ c, c < tFls.length → NoAttr (gq K).K ((gq K).cad c) "top"
  | 0, _ => He.noat_ok (rest_ok S.says 4 rfl)
  | 1, _ => He.noat_ok (rest_ok S.says 5 rfl)
  | n + 2, h => absurd (show n + 2 < 2 from h) (by omega)
theorem no_bottom {K : PySem.W.Frag} (S : Says K) : ∀ c, c < tFls.length → NoAttr (gq K).K ((gq K).cad c) "bottom"
  | 0, _ => He.noat_ok (rest_ok S.says 6 rfl)
  | 1, _ => He.noat_ok (rest_ok S.says 7 rfl)
  | n + 2, h => absurd (show n + 2 < 2 from h) (by omega)
theorem no_marks {K : PySem.W.Frag} (S : Says K) : ∀ c, c < tFls.length → NoAttr (gq K).K ((gq K).cad c) "marks"
  | 0, _ => He.noat_ok (rest_ok S.says 8 rfl)
  | 1, _ => He.noat_ok (rest_ok S.says 9 rfl)
  | n + 2, h => absurd (show n + 2 < 2 from h) (by omega)
theorem no_rule {K : PySem.W.Frag} (S : Says K) : ∀ c, c < tFls.length → NoAttr (gq K).K ((gq K).cad c) "rule"
  | 0, _ => He.noat_ok (rest_ok S.says 10 rfl)
  | 1, _ => He.noat_ok (rest_ok S.says 11 rfl)
  | n + 2, h => absurd (show n + 2 < 2 from h) (by omega)
theorem no_least {K : PySem.W.Frag} (S : Says K) : ∀ c, c < tFls.length → NoAttr (gq K).K ((gq K).cad c) "least"
  | 0, _ => He.noat_ok (rest_ok S.says 12 rfl)
  | 1, _ => He.noat_ok (rest_ok S.says 13 rfl)
  | n + 2, h => absurd (show n + 2 < 2 from h) (by omega)
theorem no_most {K : PySem.W.Frag} (S : Says K) : ∀ c, c < tFls.length → NoAttr (gq K).K ((gq K).cad c) "most"
  | 0, _ => He.noat_ok (rest_ok S.says 14 rfl)
  | 1, _ => He.noat_ok (rest_ok S.says 15 rfl)
  | n + 2, h => absurd (show n + 2 < 2 from h) (by omega)
theorem no_row {K : PySem.W.Frag} (S : Says K) : ∀ c, c < tFls.length → NoAttr (gq K).K ((gq K).cad c) "row"
  | 0, _ => He.noat_ok (rest_ok S.says 16 rfl)
  | 1, _ => He.noat_ok (rest_ok S.says 17 rfl)
  | n + 2, h => absurd (show n + 2 < 2 from h) (by omega)
theorem cls_all {K : PySem.W.Frag} (S : Says K) : ∀ c, c < tFls.length → Cls (gq K).K ((gq K).cad c)
  | 0, _ => He.cls_ok (rest_ok S.says 0 rfl)
  | 1, _ => He.cls_ok (rest_ok S.says 1 rfl)
  | n + 2, h => absurd (show n + 2 < 2 from h) (by omega)
theorem no_all {K : PySem.W.Frag} (S : Says K) : ∀ (c : Nat) (l : List Str) (f : Str), tFls[c]? = some l → f ∈ l → NoAttr (gq K).K ((gq K).cad c) f
  | 0, l, f, h, hf => by
    have e : l = (["top", "bottom"] : List Str) := (Option.some.inj h).symm
    subst e
    simp only [List.mem_cons, List.not_mem_nil, or_false] at hf
    rcases hf with rfl | rfl
    · exact no_top S 0 (by decide)
    · exact no_bottom S 0 (by decide)

  | 1, l, f, h, hf => by
    have e : l = (["marks", "rule", "least", "most"] : List Str) := (Option.some.inj h).symm
    subst e
    simp only [List.mem_cons, List.not_mem_nil, or_false] at hf
    rcases hf with rfl | rfl | rfl | rfl
    · exact no_marks S 1 (by decide)
    · exact no_rule S 1 (by decide)
    · exact no_least S 1 (by decide)
    · exact no_most S 1 (by decide)

  | n + 2, l, f, h, hf => by cases h
theorem fldF {K : PySem.W.Frag} (S : Says K) : FldF (gq K) tFls := ⟨fun c l h => by show tFlsX.getD c [] = l; rw [List.getD_eq_getElem?_getD, show tFlsX[c]? = some l from (List.getElem?_append_left (List.getElem?_eq_some_iff.mp h).1).trans h]; rfl, cls_all S, no_all S⟩
theorem xtS {K : PySem.W.Frag} (S : Says K) : xtB tCls tX K = true := (He.ba (He.ba (He.ba (He.ba (He.ba (He.ba (He.ba S.chk).2).1).2).2).2).2).1
theorem xiS {K : PySem.W.Frag} (S : Says K) : xiA tCls tXi K = true := (He.ba (He.ba (He.ba (He.ba (He.ba (He.ba (He.ba S.chk).2).1).2).2).2).2).2
theorem xcf_ok {K : PySem.W.Frag} (S : Says K) {c : Nat} (h : (tX.exs.lookup c).isSome = true) : XcF (gq K) (gq K).K c := xt_xcf (xtS S) h
theorem kitF {K : PySem.W.Frag} (S : Says K) : KitF (gq K) nKit nKit subK := kitB_ok (He.ba S.chk).1
section
variable {P : Program} {w : World} {mg : Str → Option Value} {base : Heap} {K : PySem.W.Frag}
abbrev sh_Slip___init__ : List (Nat × List Str) := [(2, [])]
abbrev N_Slip___init__ : List Str := ["self", "row"]
theorem fs_Slip___init__ : FnScope N_Slip___init__ ["self", "row"] (defScope st_Slip___init__) := ⟨rfl, rfl, rfl, by decide +kernel, rfl, by decide +kernel, by decide +kernel⟩
theorem exi_Slip (T : TX K mg w) (S : Says K) : ExI (gq K) P w mg base 5 0 ["row"] ["self", "row"] ([] : List D) 1 sh_Slip___init__ :=
  xi_exi (np := 0) (N := N_Slip___init__) (dfl := ([] : List D)) (p := ⟨"Slip", 0, "LadderError", ["row"]⟩) (xiS S) rfl rfl (S.says.def_ 18 (d := d_Slip___init__) rfl) rfl fs_Slip___init__ rfl (fun X W h c => ini1 c T.toTb rfl rfl (xi_bi h) (xi_oe h) rfl rfl (xi_tk h (by decide)) rfl) (fun fd F => ⟨bnd0 (g := gq K) F (fun _ _ _ _ _ _ us ws hu hw => match us, ws, hu, hw with | [_, _], [], _, _ => ⟨_, rfl, rfl⟩), trivial⟩)
abbrev sh_l_take : List (Nat × List Str) := [(2, [])]
abbrev N_l_take : List Str := ["_law_hand_here", "_law_many", "_law_digit", "_law_turn", "_law_prime", "_law_mixed"]
theorem fs_l_take : FnScope N_l_take ["_law_hand_here", "_law_many"] (defScope st_l_take) := ⟨rfl, rfl, rfl, by decide +kernel, rfl, by decide +kernel, by decide +kernel⟩
theorem b_l_take (T : TX K mg w) (S : Says K) : ∀ X W, Ct (gq K) P w mg base 0 N_l_take (defScope st_l_take) true true true X W → SB (gq K) X W (defBody st_l_take) c_l_take := fun X W c =>
  sb_cons (ss_if (st_cmp (ok_gt c.K c.hu64) (se_ix c.K (c.var rfl) se_int rfl) se_int rfl) (sb_cons (c.set rfl rfl (se_bin ok_mod (se_ix c.K (c.var rfl) se_int rfl) (c.var rfl))) (sb_cons (c.subS rfl (c.var rfl) se_int rfl (se_bin ok_fdiv (se_ix c.K (c.var rfl) se_int rfl) (c.var rfl))) (sb_cons (ss_ret (c.var rfl)) sb_nil))) sb_nil) (sb_cons (c.set rfl rfl (se_bin (ok_add c.K) (se_ix c.K (c.var rfl) se_int rfl) se_int)) (sb_cons (c.subS rfl (c.var rfl) se_int rfl (c.var rfl)) (sb_cons (c.set rfl rfl (se_ix c.K (se_lst (sa_cons rfl se_int (sa_cons rfl se_int (sa_cons rfl se_int (sa_cons rfl se_int sa_nil))))) (se_bin ok_mod (c.var rfl) se_int) rfl)) (sb_cons (c.set rfl rfl (se_bin ok_mod (se_bin (ok_add c.K) (se_bin (ok_add c.K) (se_ix c.K (c.var rfl) se_int rfl) (se_bin ok_mul (se_bin ok_mul se_int (c.var rfl)) (c.var rfl))) (se_bin ok_mul se_int (c.var rfl))) (c.var rfl))) (sb_cons (c.set rfl rfl (se_bin ok_mod (se_bin ok_pow (c.var rfl) se_int) (c.var rfl))) (sb_cons (ss_ret (se_bin ok_mod (se_bin (ok_add c.K) (se_bin ok_fdiv (c.var rfl) se_int) (se_bin ok_mul (se_bin ok_fdiv (c.var rfl) se_int) se_int)) (c.var rfl))) sb_nil))))))
theorem ok_l_take (T : TX K mg w) (S : Says K) : FnC true (gq K) P w mg base fi_l_take 1 (He.ga K "_law_take") sh_l_take :=
  FnC.of (dfl := ([] : List D)) (S.says.def_ 0 (d := d_l_take) rfl) rfl fs_l_take (b_l_take T S) (fun fd F => ⟨bnd0 F (fun _ _ _ _ _ _ us ws hu hw => match us, ws, hu, hw with | [_, _], [], _, _ => ⟨_, rfl, rfl⟩), trivial⟩)
abbrev sh_l_of : List (Nat × List Str) := [(2, [])]
abbrev N_l_of : List Str := ["_law_hand_here", "_law_some"]
theorem fs_l_of : FnScope N_l_of ["_law_hand_here", "_law_some"] (defScope st_l_of) := ⟨rfl, rfl, rfl, by decide +kernel, rfl, by decide +kernel, by decide +kernel⟩
theorem b_l_of (T : TX K mg w) (S : Says K) : ∀ X W, Ct (gq K) P w mg base 1 N_l_of (defScope st_l_of) true true true X W → SB (gq K) X W (defBody st_l_of) c_l_of := fun X W c =>
  sb_cons (ss_ret (se_ix c.K (c.var rfl) (c.call T.toTb (ok_l_take T S) rfl rfl rfl rfl rfl rfl (.cons rfl (sa_cons rfl (c.var rfl) (sa_cons rfl (c.callB T.toTb (co_len c.K) rfl rfl rfl rfl (sa_cons rfl (c.var rfl) sa_nil)) sa_nil))) sk_nil) rfl)) sb_nil
theorem ok_l_of (T : TX K mg w) (S : Says K) : FnC true (gq K) P w mg base fi_l_of 2 (He.ga K "_law_of") sh_l_of :=
  FnC.of (dfl := ([] : List D)) (S.says.def_ 1 (d := d_l_of) rfl) rfl fs_l_of (b_l_of T S) (fun fd F => ⟨bnd0 F (fun _ _ _ _ _ _ us ws hu hw => match us, ws, hu, hw with | [_, _], [], _, _ => ⟨_, rfl, rfl⟩), trivial⟩)
abbrev sh_l_rows : List (Nat × List Str) := [(1, [])]
abbrev N_l_rows : List Str := ["_law_hand_here", "_law_way", "_law_part", "_law_many", "_law_tops", "_law_top", "_law_k", "_law_at", "_law_other"]
theorem fs_l_rows : FnScope N_l_rows ["_law_hand_here"] (defScope st_l_rows) := ⟨rfl, rfl, rfl, by decide +kernel, rfl, by decide +kernel, by decide +kernel⟩
theorem b_l_rows (T : TX K mg w) (S : Says K) : ∀ X W, Ct (gq K) P w mg base 2 N_l_rows (defScope st_l_rows) true true true X W → SB (gq K) X W (defBody st_l_rows) c_l_rows := fun X W c =>
  sb_cons (c.par2 rfl rfl rfl rfl (so_cons rfl (c.call T.toTb (ok_l_take T S) rfl rfl rfl rfl rfl rfl (.cons rfl (sa_cons rfl (c.var rfl) (sa_cons rfl se_int sa_nil))) sk_nil) (so_cons rfl (c.call T.toTb (ok_l_of T S) rfl rfl rfl rfl rfl rfl (.cons rfl (sa_cons rfl (c.var rfl) (sa_cons rfl (se_lst (sa_cons rfl se_int (sa_cons rfl se_int (sa_cons rfl se_int (sa_cons rfl se_int (sa_cons rfl se_int sa_nil)))))) sa_nil))) sk_nil) so_nil))) (sb_cons (c.set rfl rfl (c.call T.toTb (ok_l_of T S) rfl rfl rfl rfl rfl rfl (.cons rfl (sa_cons rfl (c.var rfl) (sa_cons rfl (se_lst (sa_cons rfl se_int (sa_cons rfl se_int (sa_cons rfl se_int (sa_cons rfl se_int (sa_cons rfl se_int (sa_cons rfl se_int (sa_cons rfl se_int sa_nil)))))))) sa_nil))) sk_nil)) (sb_cons (c.par2 rfl rfl rfl rfl (so_cons rfl (se_lst sa_nil) (so_cons rfl (se_bin ok_sub (c.call T.toTb (ok_l_take T S) rfl rfl rfl rfl rfl rfl (.cons rfl (sa_cons rfl (c.var rfl) (sa_cons rfl se_int sa_nil))) sk_nil) se_int) so_nil))) (sb_cons (ss_for (c.po rfl rfl) (c.calm rfl) (si_range1 (c.gl rfl).1 (by rw [c.hmg]; exact T.fr _ rfl) rfl (c.var rfl)) (sl := [6]) (c.sgName rfl) (sb_cons (ss_expr (se_lm PySem.F.slot_list_append PySem.F.type_list_append lm_app c.K rfl rfl rfl (c.var rfl) (sa_cons rfl (se_ix c.K (se_lst (sa_cons rfl (c.var rfl) (sa_cons rfl (c.var rfl) (sa_cons rfl (c.var rfl) (sa_cons rfl (c.var rfl) (sa_cons rfl (c.call T.toTb (ok_l_take T S) rfl rfl rfl rfl rfl rfl (.cons rfl (sa_cons rfl (c.var rfl) (sa_cons rfl se_int sa_nil))) sk_nil) (sa_cons rfl (se_bin ok_sub (c.call T.toTb (ok_l_take T S) rfl rfl rfl rfl rfl rfl (.cons rfl (sa_cons rfl (c.var rfl) (sa_cons rfl se_int sa_nil))) sk_nil) se_int) (sa_cons rfl (se_bin ok_sub se_int (c.var rfl)) sa_nil)))))))) (c.var rfl) rfl) sa_nil)) rfl) (sb_cons (c.set rfl rfl (se_bin (ok_add c.K) (se_bin (ok_add c.K) (c.var rfl) se_int) (c.call T.toTb (ok_l_of T S) rfl rfl rfl rfl rfl rfl (.cons rfl (sa_cons rfl (c.var rfl) (sa_cons rfl (se_lst (sa_cons rfl se_int (sa_cons rfl se_int (sa_cons rfl (c.call T.toTb (ok_l_take T S) rfl rfl rfl rfl rfl rfl (.cons rfl (sa_cons rfl (c.var rfl) (sa_cons rfl (se_bin ok_mul se_int (c.var rfl)) sa_nil))) sk_nil) sa_nil)))) sa_nil))) sk_nil))) sb_nil)) rfl) (sb_cons (c.par2 rfl rfl rfl rfl (so_cons rfl (c.call T.toTb (ok_l_take T S) rfl rfl rfl rfl rfl rfl (.cons rfl (sa_cons rfl (c.var rfl) (sa_cons rfl (c.var rfl) sa_nil))) sk_nil) (so_cons rfl (c.call T.toTb (ok_l_take T S) rfl rfl rfl rfl rfl rfl (.cons rfl (sa_cons rfl (c.var rfl) (sa_cons rfl (c.var rfl) sa_nil))) sk_nil) so_nil))) (sb_cons (ss_if (st_cmp (ok_eq c.K c.hu64) (c.var rfl) se_int rfl) (sb_cons (c.tupT (.cons rfl (sg_sub rfl (c.var rfl) (c.var rfl)) (.cons rfl (sg_sub rfl (c.var rfl) (c.var rfl)) .nil)) rfl (se_tup (sa_cons rfl (se_ix c.K (c.var rfl) (c.var rfl) rfl) (sa_cons rfl (se_ix c.K (c.var rfl) (c.var rfl) rfl) sa_nil)))) sb_nil) sb_nil) (sb_cons (ss_if (st_cmp (ok_eq c.K c.hu64) (c.var rfl) se_int rfl) (sb_cons (ss_expr (se_lm PySem.F.slot_list_insert PySem.F.type_list_insert lm_ins c.K rfl rfl rfl (c.var rfl) (sa_cons rfl (c.var rfl) (sa_cons rfl (se_lm PySem.F.slot_list_pop PySem.F.type_list_pop lm_popAt c.K rfl rfl rfl (c.var rfl) (sa_cons rfl (c.var rfl) sa_nil)) sa_nil))) rfl) sb_nil) sb_nil) (sb_cons (ss_if (st_cmp (ok_eq c.K c.hu64) (c.var rfl) se_int rfl) (sb_cons (c.subS rfl (c.var rfl) (c.var rfl) rfl (se_bin (ok_add c.K) (se_ix c.K (c.var rfl) (c.var rfl) rfl) (c.call T.toTb (ok_l_of T S) rfl rfl rfl rfl rfl rfl (.cons rfl (sa_cons rfl (c.var rfl) (sa_cons rfl (se_lst (sa_cons rfl se_int (sa_cons rfl se_int (sa_cons rfl se_int (sa_cons rfl (se_un un_ok_neg se_int) (sa_cons rfl se_int sa_nil)))))) sa_nil))) sk_nil))) sb_nil) sb_nil) (sb_cons (ss_ret (se_tup (sa_cons rfl (c.var rfl) (sa_cons rfl (c.callTy T.toTb (co_tuple c.K) rfl rfl rfl rfl (sa_cons rfl (c.var rfl) sa_nil)) sa_nil)))) sb_nil))))))))
theorem ok_l_rows (T : TX K mg w) (S : Says K) : FnC true (gq K) P w mg base fi_l_rows 3 (He.ga K "_law_rows") sh_l_rows :=
  FnC.of (dfl := ([] : List D)) (S.says.def_ 2 (d := d_l_rows) rfl) rfl fs_l_rows (b_l_rows T S) (fun fd F => ⟨bnd0 F (fun _ _ _ _ _ _ us ws hu hw => match us, ws, hu, hw with | [_], [], _, _ => ⟨_, rfl, rfl⟩), trivial⟩)
abbrev sh_l_hand : List (Nat × List Str) := [(2, [])]
abbrev N_l_hand : List Str := ["_law_script", "_law_k", "_law_cell", "_law_own"]
theorem fs_l_hand : FnScope N_l_hand ["_law_script", "_law_k"] (defScope st_l_hand) := ⟨rfl, rfl, rfl, by decide +kernel, rfl, by decide +kernel, by decide +kernel⟩
theorem b_l_hand (T : TX K mg w) (S : Says K) : ∀ X W, Ct (gq K) P w mg base 0 N_l_hand (defScope st_l_hand) true true true X W → SB (gq K) X W (defBody st_l_hand) c_l_hand := fun X W c =>
  sb_cons (c.set rfl rfl se_int) (sb_cons (ss_if (st_cmp (ok_lt c.K c.hu64) (c.var rfl) (c.callB T.toTb (co_len c.K) rfl rfl rfl rfl (sa_cons rfl (c.var rfl) sa_nil)) rfl) (sb_cons (c.set rfl rfl (se_ix c.K (c.var rfl) (c.var rfl) rfl)) sb_nil) sb_nil) (sb_cons (c.set rfl rfl (c.callB T.toTb co_abs rfl rfl rfl rfl (sa_cons rfl (c.var rfl) sa_nil))) (sb_cons (ss_if (st_cmp (ok_lt c.K c.hu64) (c.var rfl) (se_bin ok_pow se_int se_int) rfl) (sb_cons (c.set rfl rfl se_int) sb_nil) sb_nil) (sb_cons (ss_ret (se_lst (sa_cons rfl (c.var rfl) (sa_cons rfl (se_bin (ok_add c.K) (se_bin (ok_add c.K) (se_bin ok_mod (c.var rfl) se_int) (se_bin ok_mul se_int (c.var rfl))) se_int) (sa_cons rfl se_int sa_nil))))) sb_nil))))
theorem ok_l_hand (T : TX K mg w) (S : Says K) : FnC true (gq K) P w mg base fi_l_hand 1 (He.ga K "_law_hand") sh_l_hand :=
  FnC.of (dfl := ([] : List D)) (S.says.def_ 3 (d := d_l_hand) rfl) rfl fs_l_hand (b_l_hand T S) (fun fd F => ⟨bnd0 F (fun _ _ _ _ _ _ us ws hu hw => match us, ws, hu, hw with | [_, _], [], _, _ => ⟨_, rfl, rfl⟩), trivial⟩)
abbrev sh_is_whole : List (Nat × List Str) := [(1, [])]
abbrev N_is_whole : List Str := ["thing"]
theorem fs_is_whole : FnScope N_is_whole ["thing"] (defScope st_is_whole) := ⟨rfl, rfl, rfl, by decide +kernel, rfl, by decide +kernel, by decide +kernel⟩
theorem b_is_whole (T : TX K mg w) (S : Says K) : ∀ X W, Ct (gq K) P w mg base 0 N_is_whole (defScope st_is_whole) true true true X W → SB (gq K) X W (defBody st_is_whole) c_is_whole := fun X W c =>
  sb_cons (ss_ret (se_and (c.callB T.toTb (co_isi c.K (kitF S)) rfl rfl rfl rfl (sa_cons rfl (c.var rfl) (sa_cons rfl (c.tyName T.toTb rfl rfl rfl) sa_nil))) (se_one (se_not (c.callB T.toTb (co_isi c.K (kitF S)) rfl rfl rfl rfl (sa_cons rfl (c.var rfl) (sa_cons rfl (c.tyName T.toTb rfl rfl rfl) sa_nil))))))) sb_nil
theorem ok_is_whole (T : TX K mg w) (S : Says K) : FnC true (gq K) P w mg base fi_is_whole 1 (He.ga K "is_whole") sh_is_whole :=
  FnC.of (dfl := ([] : List D)) (S.says.def_ 4 (d := d_is_whole) rfl) rfl fs_is_whole (b_is_whole T S) (fun fd F => ⟨bnd0 F (fun _ _ _ _ _ _ us ws hu hw => match us, ws, hu, hw with | [_], [], _, _ => ⟨_, rfl, rfl⟩), trivial⟩)
abbrev sh_common_part : List (Nat × List Str) := [(2, [])]
abbrev N_common_part : List Str := ["many", "few"]
theorem fs_common_part : FnScope N_common_part ["many", "few"] (defScope st_common_part) := ⟨rfl, rfl, rfl, by decide +kernel, rfl, by decide +kernel, by decide +kernel⟩
theorem b_common_part (T : TX K mg w) (S : Says K) : ∀ X W, Ct (gq K) P w mg base 0 N_common_part (defScope st_common_part) true true true X W → SB (gq K) X W (defBody st_common_part) c_common_part := fun X W c =>
  sb_cons (ss_while (c.po rfl rfl) (st_cmp (ok_gt c.K c.hu64) (c.var rfl) se_int rfl) (sb_cons (c.par2 rfl rfl rfl rfl (so_cons rfl (c.var rfl) (so_cons rfl (se_bin ok_mod (c.var rfl) (c.var rfl)) so_nil))) sb_nil)) (sb_cons (ss_ret (c.var rfl)) sb_nil)
theorem ok_common_part (T : TX K mg w) (S : Says K) : FnC true (gq K) P w mg base fi_common_part 1 (He.ga K "common_part") sh_common_part :=
  FnC.of (dfl := ([] : List D)) (S.says.def_ 5 (d := d_common_part) rfl) rfl fs_common_part (b_common_part T S) (fun fd F => ⟨bnd0 F (fun _ _ _ _ _ _ us ws hu hw => match us, ws, hu, hw with | [_, _], [], _, _ => ⟨_, rfl, rfl⟩), trivial⟩)
abbrev sh_Measure___init__ : List (Nat × List Str) := [(3, [])]
abbrev N_Measure___init__ : List Str := ["self", "top", "bottom", "part"]
theorem fs_Measure___init__ : FnScope N_Measure___init__ ["self", "top", "bottom"] (defScope st_Measure___init__) := ⟨rfl, rfl, rfl, by decide +kernel, rfl, by decide +kernel, by decide +kernel⟩
theorem b_Measure___init__ (T : TX K mg w) (S : Says K) : ∀ X W, Ct (gq K) P w mg base 1 N_Measure___init__ (defScope st_Measure___init__) true true true X W → SB (gq K) X W (defBody st_Measure___init__) c_Measure___init__ := fun X W c =>
  sb_cons (ss_if (st_pw (sw_or (st_not (st_val (c.call T.toTb (ok_is_whole T S) rfl rfl rfl rfl rfl rfl (.cons rfl (sa_cons rfl (c.var rfl) sa_nil)) sk_nil) (fun _ => rfl))) (sw_one _ (st_not (st_val (c.call T.toTb (ok_is_whole T S) rfl rfl rfl rfl rfl rfl (.cons rfl (sa_cons rfl (c.var rfl) sa_nil)) sk_nil) (fun _ => rfl)))))) (sb_cons (c.raise T.toTb (xcf_ok S (c := 2) rfl) rfl rfl rfl) sb_nil) sb_nil) (sb_cons (ss_if (st_cmp (ok_eq c.K c.hu64) (c.var rfl) se_int rfl) (sb_cons (c.raise T.toTb (xcf_ok S (c := 3) rfl) rfl rfl rfl) sb_nil) sb_nil) (sb_cons (c.set rfl rfl (c.call T.toTb (ok_common_part T S) rfl rfl rfl rfl rfl rfl (.cons rfl (sa_cons rfl (c.callB T.toTb co_abs rfl rfl rfl rfl (sa_cons rfl (c.var rfl) sa_nil)) (sa_cons rfl (c.callB T.toTb co_abs rfl rfl rfl rfl (sa_cons rfl (c.var rfl) sa_nil)) sa_nil))) sk_nil)) (sb_cons (ss_if (st_cmp (ok_lt c.K c.hu64) (c.var rfl) se_int rfl) (sb_cons (c.set rfl rfl (se_bin ok_sub se_int (c.var rfl))) sb_nil) sb_nil) (sb_cons (c.fld (fldF S) (no_top S) (c.var rfl) (se_bin ok_fdiv (c.var rfl) (c.var rfl))) (sb_cons (c.fld (fldF S) (no_bottom S) (c.var rfl) (se_bin ok_fdiv (c.var rfl) (c.var rfl))) sb_nil)))))
theorem ok_Measure___init__ (T : TX K mg w) (S : Says K) : FnC true (gq K) P w mg base fi_Measure___init__ 2 (He.ma K (He.ga K "Measure") "__init__") sh_Measure___init__ :=
  FnC.of (dfl := ([.int 1] : List D)) (S.says.def_ 6 (d := d_Measure___init__) rfl) rfl fs_Measure___init__ (b_Measure___init__ T S) (fun fd F => ⟨bnd1 F (by intro h; cases h) (fun _ _ _ _ _ _ _ us its ws hu hi hw => match us, its, ws, hu, hi, hw with | [_, _, _], [_], [], _, _, _ => ⟨_, rfl, _, rfl, rfl⟩), trivial⟩)
abbrev sh_l_made : List (Nat × List Str) := [(1, [])]
abbrev N_l_made : List Str := ["_law_its_rows", "_law_top"]
theorem fs_l_made : FnScope N_l_made ["_law_its_rows"] (defScope st_l_made) := ⟨rfl, rfl, rfl, by decide +kernel, rfl, by decide +kernel, by decide +kernel⟩
theorem b_l_made (T : TX K mg w) (S : Says K) : ∀ X W, Ct (gq K) P w mg base 3 N_l_made (defScope st_l_made) true true true X W → SB (gq K) X W (defBody st_l_made) c_l_made := fun X W c =>
  sb_cons (ss_ret (c.callTy T.toTb (co_tuple c.K) rfl rfl rfl rfl (sa_cons rfl (c.comp0 (sl := [1]) (ow := [("_law_top", 1)]) (si_val c.K (se_ix c.K (c.var rfl) se_int rfl)) rfl rfl rfl rfl (fun X W c => c.sgName rfl) (fun X W c => c.make T.toTb (ok_Measure___init__ T S) rfl (mkr_Measure S) rfl rfl rfl rfl rfl rfl rfl (.cons rfl (sa_cons rfl (c.var rfl) (sa_cons rfl (se_ix c.K (c.var rfl) se_int rfl) sa_nil))) sk_nil)) sa_nil))) sb_nil
theorem ok_l_made (T : TX K mg w) (S : Says K) : FnC true (gq K) P w mg base fi_l_made 4 (He.ga K "_law_made") sh_l_made :=
  FnC.of (dfl := ([] : List D)) (S.says.def_ 7 (d := d_l_made) rfl) rfl fs_l_made (b_l_made T S) (fun fd F => ⟨bnd0 F (fun _ _ _ _ _ _ us ws hu hw => match us, ws, hu, hw with | [_], [], _, _ => ⟨_, rfl, rfl⟩), trivial⟩)
abbrev sh_l_due : List (Nat × List Str) := [(1, [])]
abbrev N_l_due : List Str := ["_law_tops", "_law_k"]
theorem fs_l_due : FnScope N_l_due ["_law_tops"] (defScope st_l_due) := ⟨rfl, rfl, rfl, by decide +kernel, rfl, by decide +kernel, by decide +kernel⟩
theorem b_l_due (T : TX K mg w) (S : Says K) : ∀ X W, Ct (gq K) P w mg base 0 N_l_due (defScope st_l_due) true true true X W → SB (gq K) X W (defBody st_l_due) c_l_due := fun X W c =>
  sb_cons (ss_for (c.po rfl rfl) (c.calm rfl) (si_range2 (c.gl rfl).1 (by rw [c.hmg]; exact T.fr _ rfl) rfl rfl se_int (c.callB T.toTb (co_len c.K) rfl rfl rfl rfl (sa_cons rfl (c.var rfl) sa_nil))) (sl := [1]) (c.sgName rfl) (sb_cons (ss_if (st_cmp ok_le (se_ix c.K (c.var rfl) (c.var rfl) rfl) (se_ix c.K (c.var rfl) (se_bin ok_sub (c.var rfl) se_int) rfl) rfl) (sb_cons (ss_ret (c.var rfl)) sb_nil) sb_nil) sb_nil) rfl) (sb_cons (ss_ret se_non) sb_nil)
theorem ok_l_due (T : TX K mg w) (S : Says K) : FnC true (gq K) P w mg base fi_l_due 1 (He.ga K "_law_due") sh_l_due :=
  FnC.of (dfl := ([] : List D)) (S.says.def_ 8 (d := d_l_due) rfl) rfl fs_l_due (b_l_due T S) (fun fd F => ⟨bnd0 F (fun _ _ _ _ _ _ us ws hu hw => match us, ws, hu, hw with | [_], [], _, _ => ⟨_, rfl, rfl⟩), trivial⟩)
abbrev sh_Measure_is_below : List (Nat × List Str) := [(2, [])]
abbrev N_Measure_is_below : List Str := ["self", "other", "alike", "here", "there"]
theorem fs_Measure_is_below : FnScope N_Measure_is_below ["self", "other", "alike"] (defScope st_Measure_is_below) := ⟨rfl, rfl, rfl, by decide +kernel, rfl, by decide +kernel, by decide +kernel⟩
theorem b_Measure_is_below (T : TX K mg w) (S : Says K) : ∀ X W, Ct (gq K) P w mg base 0 N_Measure_is_below (defScope st_Measure_is_below) true true true X W → SB (gq K) X W (defBody st_Measure_is_below) c_Measure_is_below := fun X W c =>
  sb_cons (c.par2 rfl rfl rfl rfl (so_cons rfl (se_bin ok_mul (c.attr (fldF S) (no_top S) (c.var rfl) rfl) (c.attr (fldF S) (no_bottom S) (c.var rfl) rfl)) (so_cons rfl (se_bin ok_mul (c.attr (fldF S) (no_top S) (c.var rfl) rfl) (c.attr (fldF S) (no_bottom S) (c.var rfl) rfl)) so_nil))) (sb_cons (ss_ret (se_or (se_cmp (ok_lt c.K c.hu64) (c.var rfl) (c.var rfl) rfl) (se_one (se_and (c.var rfl) (se_one (se_cmp (ok_eq c.K c.hu64) (c.var rfl) (c.var rfl) rfl)))))) sb_nil)
theorem ok_Measure_is_below (T : TX K mg w) (S : Says K) : FnC true (gq K) P w mg base fi_Measure_is_below 1 (He.ma K (He.ga K "Measure") "is_below") sh_Measure_is_below :=
  FnC.of (dfl := ([.bl false] : List D)) (S.says.def_ 9 (d := d_Measure_is_below) rfl) rfl fs_Measure_is_below (b_Measure_is_below T S) (fun fd F => ⟨bnd1 F (by intro h; cases h) (fun _ _ _ _ _ _ _ us its ws hu hi hw => match us, its, ws, hu, hi, hw with | [_, _], [_], [], _, _, _ => ⟨_, rfl, _, rfl, rfl⟩), trivial⟩)
theorem mtc_is_below_ (T : TX K mg w) (S : Says K) : ∀ c fi, mt_is_below c = some fi → ∃ f, FnC true (gq K) P w mg base fi 1 f [(2, [])] ∧ Cls (gq K).K ((gq K).cad c) ∧ Meth (gq K).K ((gq K).cad c) "is_below" f ∧ ((gq K).fl c).contains "is_below" = false
  | 0, fi, h => by
    cases h
    exact ⟨_, ((ok_Measure_is_below T S).sub 1 rfl (by decide +kernel)).gd rfl, cls_all S 0 (by decide), He.meth_ok (rest_ok S.says 18 rfl), rfl⟩
  | 1, fi, h => by cases h
  | n + 2, fi, h => by cases h
theorem mtc_is_below (T : TX K mg w) (S : Says K) : MtC true (gq K) P w mg base mt_is_below "is_below" 1 [(2, [])] := ⟨mtc_is_below_ T S⟩
abbrev sh_first_slip : List (Nat × List Str) := [(1, [])]
abbrev N_first_slip : List Str := ["rows", "row"]
theorem fs_first_slip : FnScope N_first_slip ["rows"] (defScope st_first_slip) := ⟨rfl, rfl, rfl, by decide +kernel, rfl, by decide +kernel, by decide +kernel⟩
theorem b_first_slip (T : TX K mg w) (S : Says K) : ∀ X W, Ct (gq K) P w mg base 1 N_first_slip (defScope st_first_slip) true true true X W → SB (gq K) X W (defBody st_first_slip) c_first_slip := fun X W c =>
  sb_cons (ss_for (c.po rfl rfl) (c.calm rfl) (si_range2 (c.gl rfl).1 (by rw [c.hmg]; exact T.fr _ rfl) rfl rfl se_int (c.callB T.toTb (co_len c.K) rfl rfl rfl rfl (sa_cons rfl (c.var rfl) sa_nil))) (sl := [1]) (c.sgName rfl) (sb_cons (ss_if (st_not (st_val (c.meth (mtc_is_below T S) rfl rfl rfl rfl rfl rfl (se_ix c.K (c.var rfl) (se_bin ok_sub (c.var rfl) se_int) rfl) (.cons rfl (sa_cons rfl (se_ix c.K (c.var rfl) (c.var rfl) rfl) sa_nil)) sk_nil) (fun _ => rfl))) (sb_cons (ss_ret (c.var rfl)) sb_nil) sb_nil) sb_nil) rfl) (sb_cons (ss_ret se_non) sb_nil)
theorem ok_first_slip (T : TX K mg w) (S : Says K) : FnC true (gq K) P w mg base fi_first_slip 2 (He.ga K "first_slip") sh_first_slip :=
  FnC.of (dfl := ([] : List D)) (S.says.def_ 10 (d := d_first_slip) rfl) rfl fs_first_slip (b_first_slip T S) (fun fd F => ⟨bnd0 F (fun _ _ _ _ _ _ us ws hu hw => match us, ws, hu, hw with | [_], [], _, _ => ⟨_, rfl, rfl⟩), trivial⟩)
abbrev sh_slip_of : List (Nat × List Str) := [(1, []), (0, ["rows"])]
abbrev N_slip_of : List Str := ["rows"]
theorem fs_slip_of : FnScope N_slip_of ["rows"] (defScope st_slip_of) := ⟨rfl, rfl, rfl, by decide +kernel, rfl, by decide +kernel, by decide +kernel⟩
theorem b_slip_of (T : TX K mg w) (S : Says K) : ∀ X W, Ct (gq K) P w mg base 2 N_slip_of (defScope st_slip_of) true true true X W → SB (gq K) X W (defBody st_slip_of) c_slip_of := fun X W c =>
  sb_cons (ss_ret (c.call T.toTb (ok_first_slip T S) rfl rfl rfl rfl rfl rfl (.cons rfl (sa_cons rfl (c.var rfl) sa_nil)) sk_nil)) sb_nil
theorem ok_slip_of (T : TX K mg w) (S : Says K) : FnC true (gq K) P w mg base fi_slip_of 3 (He.ga K "slip_of") sh_slip_of :=
  FnC.of (dfl := ([] : List D)) (S.says.def_ 11 (d := d_slip_of) rfl) rfl fs_slip_of (b_slip_of T S) (fun fd F => ⟨bnd0 F (fun _ _ _ _ _ _ us ws hu hw => match us, ws, hu, hw with | [_], [], _, _ => ⟨_, rfl, rfl⟩), ⟨bnd0 F (fun _ _ _ _ _ _ us ws hu hw => match us, ws, hu, hw with | [], [_], _, _ => ⟨_, rfl, rfl⟩), trivial⟩⟩)
abbrev sh_are_measures : List (Nat × List Str) := [(3, [])]
abbrev N_are_measures : List Str := ["thing", "fewest", "most", "one"]
theorem fs_are_measures : FnScope N_are_measures ["thing", "fewest", "most"] (defScope st_are_measures) := ⟨rfl, rfl, rfl, by decide +kernel, rfl, by decide +kernel, by decide +kernel⟩
theorem b_are_measures (T : TX K mg w) (S : Says K) : ∀ X W, Ct (gq K) P w mg base 0 N_are_measures (defScope st_are_measures) true true true X W → SB (gq K) X W (defBody st_are_measures) c_are_measures := fun X W c =>
  sb_cons (ss_if (st_pw (sw_or (st_not (st_val (c.callB T.toTb (co_isi c.K (kitF S)) rfl rfl rfl rfl (sa_cons rfl (c.var rfl) (sa_cons rfl (c.tyName T.toTb rfl rfl rfl) sa_nil))) (fun _ => rfl))) (sw_one _ (st_not (st_chain ok_le ok_le (c.var rfl) (c.callB T.toTb (co_len c.K) rfl rfl rfl rfl (sa_cons rfl (c.var rfl) sa_nil)) (c.var rfl) rfl))))) (sb_cons (ss_ret se_bl) sb_nil) sb_nil) (sb_cons (ss_ret (c.callB T.toTb (co_all (c.calm rfl)) rfl rfl rfl rfl (sa_cons rfl (c.comp0 (sl := [3]) (ow := [("one", 3)]) (si_val c.K (c.var rfl)) rfl rfl rfl rfl (fun X W c => c.sgName rfl) (fun X W c => c.callB T.toTb (co_isi c.K (kitF S)) rfl rfl rfl rfl (sa_cons rfl (c.var rfl) (sa_cons rfl (c.clsName T.toTb rfl rfl rfl) sa_nil)))) sa_nil))) sb_nil)
theorem ok_are_measures (T : TX K mg w) (S : Says K) : FnC true (gq K) P w mg base fi_are_measures 1 (He.ga K "are_measures") sh_are_measures :=
  FnC.of (dfl := ([] : List D)) (S.says.def_ 12 (d := d_are_measures) rfl) rfl fs_are_measures (b_are_measures T S) (fun fd F => ⟨bnd0 F (fun _ _ _ _ _ _ us ws hu hw => match us, ws, hu, hw with | [_, _, _], [], _, _ => ⟨_, rfl, rfl⟩), trivial⟩)
abbrev sh_is_rule : List (Nat × List Str) := [(1, [])]
abbrev N_is_rule : List Str := ["thing"]
theorem fs_is_rule : FnScope N_is_rule ["thing"] (defScope st_is_rule) := ⟨rfl, rfl, rfl, by decide +kernel, rfl, by decide +kernel, by decide +kernel⟩
theorem b_is_rule (T : TX K mg w) (S : Says K) : ∀ X W, Ct (gq K) P w mg base 0 N_is_rule (defScope st_is_rule) true true true X W → SB (gq K) X W (defBody st_is_rule) c_is_rule := fun X W c =>
  sb_cons (ss_ret (se_and (c.callB T.toTb (co_isi c.K (kitF S)) rfl rfl rfl rfl (sa_cons rfl (c.var rfl) (sa_cons rfl (c.tyName T.toTb rfl rfl rfl) sa_nil))) (se_one (se_cmp (ok_inT c.K c.hu65 (by rw [c.hw]; exact T.tf)) (c.var rfl) (c.tbName T rfl rfl rfl) rfl)))) sb_nil
theorem ok_is_rule (T : TX K mg w) (S : Says K) : FnC true (gq K) P w mg base fi_is_rule 1 (He.ga K "is_rule") sh_is_rule :=
  FnC.of (dfl := ([] : List D)) (S.says.def_ 13 (d := d_is_rule) rfl) rfl fs_is_rule (b_is_rule T S) (fun fd F => ⟨bnd0 F (fun _ _ _ _ _ _ us ws hu hw => match us, ws, hu, hw with | [_], [], _, _ => ⟨_, rfl, rfl⟩), trivial⟩)
abbrev sh_is_measure_or_none : List (Nat × List Str) := [(1, [])]
abbrev N_is_measure_or_none : List Str := ["thing"]
theorem fs_is_measure_or_none : FnScope N_is_measure_or_none ["thing"] (defScope st_is_measure_or_none) := ⟨rfl, rfl, rfl, by decide +kernel, rfl, by decide +kernel, by decide +kernel⟩
theorem b_is_measure_or_none (T : TX K mg w) (S : Says K) : ∀ X W, Ct (gq K) P w mg base 0 N_is_measure_or_none (defScope st_is_measure_or_none) true true true X W → SB (gq K) X W (defBody st_is_measure_or_none) c_is_measure_or_none := fun X W c =>
  sb_cons (ss_ret (se_or (se_cmp ok_is (c.var rfl) se_non rfl) (se_one (c.callB T.toTb (co_isi c.K (kitF S)) rfl rfl rfl rfl (sa_cons rfl (c.var rfl) (sa_cons rfl (c.clsName T.toTb rfl rfl rfl) sa_nil)))))) sb_nil
theorem ok_is_measure_or_none (T : TX K mg w) (S : Says K) : FnC true (gq K) P w mg base fi_is_measure_or_none 1 (He.ga K "is_measure_or_none") sh_is_measure_or_none :=
  FnC.of (dfl := ([] : List D)) (S.says.def_ 14 (d := d_is_measure_or_none) rfl) rfl fs_is_measure_or_none (b_is_measure_or_none T S) (fun fd F => ⟨bnd0 F (fun _ _ _ _ _ _ us ws hu hw => match us, ws, hu, hw with | [_], [], _, _ => ⟨_, rfl, rfl⟩), trivial⟩)
abbrev sh_Ladder___init__ : List (Nat × List Str) := [(2, [])]
abbrev N_Ladder___init__ : List Str := ["self", "marks", "rule", "least", "most", "row"]
theorem fs_Ladder___init__ : FnScope N_Ladder___init__ ["self", "marks", "rule", "least", "most"] (defScope st_Ladder___init__) := ⟨rfl, rfl, rfl, by decide +kernel, rfl, by decide +kernel, by decide +kernel⟩
theorem b_Ladder___init__ (T : TX K mg w) (S : Says K) : ∀ X W, Ct (gq K) P w mg base 2 N_Ladder___init__ (defScope st_Ladder___init__) true true true X W → SB (gq K) X W (defBody st_Ladder___init__) c_Ladder___init__ := fun X W c =>
  sb_cons (ss_if (st_pw (sw_or (st_not (st_val (c.call T.toTb (ok_are_measures T S) rfl rfl rfl rfl rfl rfl (.cons rfl (sa_cons rfl (c.var rfl) (sa_cons rfl se_int (sa_cons rfl (c.gint rfl (T.gi _ _ rfl)) sa_nil)))) sk_nil) (fun _ => rfl))) (sw_one _ (st_not (st_val (c.call T.toTb (ok_is_rule T S) rfl rfl rfl rfl rfl rfl (.cons rfl (sa_cons rfl (c.var rfl) sa_nil)) sk_nil) (fun _ => rfl)))))) (sb_cons (c.raise T.toTb (xcf_ok S (c := 4) rfl) rfl rfl rfl) sb_nil) sb_nil) (sb_cons (ss_if (st_pw (sw_or (st_not (st_val (c.call T.toTb (ok_is_measure_or_none T S) rfl rfl rfl rfl rfl rfl (.cons rfl (sa_cons rfl (c.var rfl) sa_nil)) sk_nil) (fun _ => rfl))) (sw_one _ (st_not (st_val (c.call T.toTb (ok_is_measure_or_none T S) rfl rfl rfl rfl rfl rfl (.cons rfl (sa_cons rfl (c.var rfl) sa_nil)) sk_nil) (fun _ => rfl)))))) (sb_cons (c.raise T.toTb (xcf_ok S (c := 4) rfl) rfl rfl rfl) sb_nil) sb_nil) (sb_cons (ss_if (st_pw (sw_and (st_cmp ok_isnot (c.var rfl) se_non rfl) (sw_and (st_cmp ok_isnot (c.var rfl) se_non rfl) (sw_one _ (st_val (c.meth (mtc_is_below T S) rfl rfl rfl rfl rfl rfl (c.var rfl) (.cons rfl (sa_cons rfl (c.var rfl) sa_nil)) sk_nil) (fun _ => rfl)))))) (sb_cons (c.raise T.toTb (xcf_ok S (c := 4) rfl) rfl rfl rfl) sb_nil) sb_nil) (sb_cons (c.set rfl rfl (c.call T.toTb (ok_first_slip T S) rfl rfl rfl rfl rfl rfl (.cons rfl (sa_cons rfl (c.var rfl) sa_nil)) sk_nil)) (sb_cons (ss_if (st_cmp ok_isnot (c.var rfl) se_non rfl) (sb_cons (c.raiseI T.toTb (exi_Slip T S) rfl rfl rfl rfl rfl rfl rfl (sa_cons rfl (c.var rfl) sa_nil)) sb_nil) sb_nil) (sb_cons (c.fld (fldF S) (no_marks S) (c.var rfl) (c.var rfl)) (sb_cons (c.fld (fldF S) (no_rule S) (c.var rfl) (c.var rfl)) (sb_cons (c.fld (fldF S) (no_least S) (c.var rfl) (c.var rfl)) (sb_cons (c.fld (fldF S) (no_most S) (c.var rfl) (c.var rfl)) sb_nil))))))))
theorem ok_Ladder___init__ (T : TX K mg w) (S : Says K) : FnC true (gq K) P w mg base fi_Ladder___init__ 3 (He.ma K (He.ga K "Ladder") "__init__") sh_Ladder___init__ :=
  FnC.of (dfl := ([.str "up", .non, .non] : List D)) (S.says.def_ 15 (d := d_Ladder___init__) rfl) rfl fs_Ladder___init__ (b_Ladder___init__ T S) (fun fd F => ⟨bnd1 F (by intro h; cases h) (fun _ _ _ _ _ _ _ us its ws hu hi hw => match us, its, ws, hu, hi, hw with | [_, _], [_, _, _], [], _, _, _ => ⟨_, rfl, _, rfl, rfl⟩), trivial⟩)
abbrev sh_l_row : List (Nat × List Str) := [(1, [])]
abbrev N_l_row : List Str := ["_law_its_rows", "_law_caught", "e"]
theorem fs_l_row : FnScope N_l_row ["_law_its_rows"] (defScope st_l_row) := ⟨rfl, rfl, rfl, by decide +kernel, rfl, by decide +kernel, by decide +kernel⟩
theorem b_l_row (T : TX K mg w) (S : Says K) : ∀ X W, Ct (gq K) P w mg base 4 N_l_row (defScope st_l_row) true true true X W → SB (gq K) X W (defBody st_l_row) c_l_row := fun X W c =>
  sb_cons (c.set rfl rfl se_non) (sb_cons (c.try_ (xt_exm (xtS S)) (fun X W c => sb_cons (ss_expr (c.make T.toTb (ok_Ladder___init__ T S) rfl (mkr_Ladder S) rfl rfl rfl rfl rfl rfl rfl (.cons rfl (sa_cons rfl (c.var rfl) sa_nil)) sk_nil) rfl) sb_nil) (.name (c.names T.toTb rfl rfl rfl) rfl (fun X W c => sb_cons (c.set rfl rfl (c.var rfl)) sb_nil) .nil)) (sb_cons (ss_ret (se_if (st_cmp ok_is (c.var rfl) se_non rfl) se_non (se_attrX c.K (xi_xff (xiS S) rfl) (c.var rfl) rfl (c.attr (fldF S) (no_row S) (c.var rfl) rfl)))) sb_nil))
theorem ok_l_row (T : TX K mg w) (S : Says K) : FnC true (gq K) P w mg base fi_l_row 5 (He.ga K "_law_row") sh_l_row :=
  FnC.of (dfl := ([] : List D)) (S.says.def_ 16 (d := d_l_row) rfl) rfl fs_l_row (b_l_row T S) (fun fd F => ⟨bnd0 F (fun _ _ _ _ _ _ us ws hu hw => match us, ws, hu, hw with | [_], [], _, _ => ⟨_, rfl, rfl⟩), trivial⟩)
abbrev sh_law : List (Nat × List Str) := [(1, [])]
abbrev N_law : List Str := ["_law_script", "_law_k", "_law_its_rows", "_law_made_here", "_law_due_here"]
theorem fs_law : FnScope N_law ["_law_script"] (defScope st_law) := ⟨rfl, rfl, rfl, by decide +kernel, rfl, by decide +kernel, by decide +kernel⟩
theorem b_law (T : TX K mg w) (S : Says K) : ∀ X W, Ct (gq K) P w mg base 5 N_law (defScope st_law) true true true X W → SB (gq K) X W (defBody st_law) c_law := fun X W c =>
  sb_cons (ss_for (c.po rfl rfl) (c.calm rfl) (si_range1 (c.gl rfl).1 (by rw [c.hmg]; exact T.fr _ rfl) rfl (c.callB T.toTb (co_max (c.calm rfl)) rfl rfl rfl rfl (sa_cons rfl se_int (sa_cons rfl (c.callB T.toTb (co_min (c.calm rfl)) rfl rfl rfl rfl (sa_cons rfl se_int (sa_cons rfl (c.callB T.toTb (co_len c.K) rfl rfl rfl rfl (sa_cons rfl (c.var rfl) sa_nil)) sa_nil))) sa_nil)))) (sl := [1]) (c.sgName rfl) (sb_cons (c.set rfl rfl (c.call T.toTb (ok_l_rows T S) rfl rfl rfl rfl rfl rfl (.cons rfl (sa_cons rfl (se_own (c.call T.toTb (ok_l_hand T S) rfl rfl rfl rfl rfl rfl (.cons rfl (sa_cons rfl (c.var rfl) (sa_cons rfl (c.var rfl) sa_nil))) sk_nil)) sa_nil)) sk_nil)) (sb_cons (c.par2 rfl rfl rfl rfl (so_cons rfl (c.call T.toTb (ok_l_made T S) rfl rfl rfl rfl rfl rfl (.cons rfl (sa_cons rfl (c.var rfl) sa_nil)) sk_nil) (so_cons rfl (c.call T.toTb (ok_l_due T S) rfl rfl rfl rfl rfl rfl (.cons rfl (sa_cons rfl (se_ix c.K (c.var rfl) se_int rfl) sa_nil)) sk_nil) so_nil))) (sb_cons (ss_if (st_pw (sw_or (st_cmp (ok_ne c.K c.hu64) (c.callB T.toTb (co_repr c.K (c.gd rfl) c.hu) rfl rfl rfl rfl (sa_cons rfl (c.call T.toTb (ok_slip_of T S) rfl rfl rfl rfl rfl rfl (.cons rfl (sa_cons rfl (c.var rfl) sa_nil)) sk_nil) sa_nil)) (c.callB T.toTb (co_repr c.K (c.gd rfl) c.hu) rfl rfl rfl rfl (sa_cons rfl (c.var rfl) sa_nil)) rfl) (sw_one _ (st_cmp (ok_ne c.K c.hu64) (c.callB T.toTb (co_repr c.K (c.gd rfl) c.hu) rfl rfl rfl rfl (sa_cons rfl (c.call T.toTb (ok_slip_of T S) rfl rfl rfl rfl rfl rfl .nil (sk_cons (c.var rfl) sk_nil)) sa_nil)) (c.callB T.toTb (co_repr c.K (c.gd rfl) c.hu) rfl rfl rfl rfl (sa_cons rfl (c.var rfl) sa_nil)) rfl)))) (sb_cons (ss_ret se_bl) sb_nil) sb_nil) (sb_cons (ss_if (st_cmp (ok_ne c.K c.hu64) (c.callB T.toTb (co_repr c.K (c.gd rfl) c.hu) rfl rfl rfl rfl (sa_cons rfl (c.call T.toTb (ok_l_row T S) rfl rfl rfl rfl rfl rfl (.cons rfl (sa_cons rfl (c.var rfl) sa_nil)) sk_nil) sa_nil)) (c.callB T.toTb (co_repr c.K (c.gd rfl) c.hu) rfl rfl rfl rfl (sa_cons rfl (c.var rfl) sa_nil)) rfl) (sb_cons (ss_ret se_bl) sb_nil) sb_nil) sb_nil)))) rfl) (sb_cons (ss_ret se_bl) sb_nil)
theorem ok_law (T : TX K mg w) (S : Says K) : FnC true (gq K) P w mg base fi_law 6 (He.ga K "law") sh_law :=
  FnC.of (dfl := ([] : List D)) (S.says.def_ 17 (d := d_law) rfl) rfl fs_law (b_law T S) (fun fd F => ⟨bnd0 F (fun _ _ _ _ _ _ us ws hu hw => match us, ws, hu, hw with | [_], [], _, _ => ⟨_, rfl, rfl⟩), trivial⟩)
end
end Law

set_option Elab.async false
set_option linter.all false
set_option maxRecDepth 100000
set_option maxHeartbeats 0
/-! the head -/
namespace Law
open PySem PySem.Spec PyProof.Rows L2 Sz

abbrev RR : PySem.W.OpenRow := PySem.W.OpenLaw.row PySem.Challenge.rw_sizeladders_k21_the_first_slip
abbrev hk : PySem.W.Hook := hookS 4 tChk (faOf tFrees tGlobs tRest) tDefs (htabs tFns lTabs)
def ob (s : PySem.W.SharedT) : AlY := obsSG 4 tChk (faOf tFrees tGlobs tRest) tDefs (htabs tFns lTabs) (HandSHeadRun.getT s)
theorem ob_eq (s : PySem.W.SharedT) : ob s = hk.obs s.abs := obsSG_eq (HandSHeadRun.getT_eq s)
def tLoose : List Str := (["_wall", "__name__", "LadderError", "NoMeasure", "NoLadder", "Slip", "NoBottom", "is_whole", "common_part", "Measure", "midst", "MOST_MARKS", "is_measure_or_none", "are_measures", "first_slip", "up_size", "down_size", "near_size", "SIZES", "is_rule"] : List Str) ++ (["Ladder", "slip_of", "_law_hand", "_law_take", "_law_of", "_law_rows", "_law_made", "_law_due", "_law_row"] : List Str)
theorem run_f (w : World) : HandSHeadRun.RunEq RR (PySem.W.view RR.prog [33]) hk ob 4000 tLoose (w.withFollow "special-get-raises" false) := by
  intro os
  kernel_rfl
theorem run_t (w : World) : HandSHeadRun.RunEq RR (PySem.W.view RR.prog [33]) hk ob 4000 tLoose (w.withFollow "special-get-raises" true) := by
  intro os
  kernel_rfl
theorem run (w : World) : HandSHeadRun.RunEq RR (PySem.W.view RR.prog [33]) hk ob 4000 tLoose w := PySem.W.byRow2 "special-get-raises" (P := fun w => HandSHeadRun.RunEq RR (PySem.W.view RR.prog [33]) hk ob 4000 tLoose w) run_f run_t w
/-- the law from its promise -/
theorem whole (hlaw : ∀ ns : List Int, ns.length ≤ 63 → fi_law.sem [.val (.scr ns)] [] = some (.ok (.val (.bl true)), [])) : PySem.Challenge.rw_sizeladders_k21_the_first_slip.Holds := by
  open PySem.W PySem.Calls PyProof.Rows in
  w_on; o_law
  refine HandSHeadRun.head_any (r := OpenLaw.row PySem.Challenge.rw_sizeladders_k21_the_first_slip) (q := view (OpenLaw.row PySem.Challenge.rw_sizeladders_k21_the_first_slip).prog [33]) (H := hk) (ob := ob) (M := 4000) (loose := tLoose) (d := HandSHeadRun.topDef (OpenLaw.row PySem.Challenge.rw_sizeladders_k21_the_first_slip).prog 33) (kwd := []) ob_eq
    (by kernel_rfl) (fun s => by kernel_rfl) run (by kernel_rfl) (by kernel_rfl) (by kernel_rfl) (by rfl) (by first | assumption | decide +kernel) (by decide +kernel) ⟨rfl, rfl, rfl, rfl, rfl, by decide +kernel⟩ ?hw ?hc
  case hw => w_witness2
  case hc =>
    refine walk_G (l := PySem.Challenge.rw_sizeladders_k21_the_first_slip) (n := 63) (k := 6) (x := "_law_script") (gb := true) rfl (by decide) (by kernel_rfl) ⟨rfl, by decide, by decide⟩ ?F
    intro w mg fa h Y G hmg0
    obtain ⟨K, KX, SY⟩ := Y
    have S := SY.z
    have hmg : mg ("law" : PySem.Str) = some (.ref fa) := by
      have e : (HandSHeadRun.topDef (OpenLaw.row PySem.Challenge.rw_sizeladders_k21_the_first_slip).prog 33).name = ("law" : PySem.Str) := by kernel_rfl
      rw [← e]
      exact hmg0
    have T : TX K mg w := tbx_of rfl KX G SY (He.ba (He.ba S.chk).2).2
    obtain ⟨fd, F⟩ := He.SaysD.def_ S.says 17 (d := d_law) rfl
    have e := hmg.symm.trans (T.gl "law" rfl).1
    cases e
    have b := FunD.bindsA (ps := ["_law_script"]) F fun _ _ _ _ _ _ us hl => match us, hl with | [_], _ => rfl
    exact ⟨K, fd, spOf (gq K) 1 fi_law.sem, KX, fun s v => b s [v] rfl, fun H a ns hl hS => sp_law (g := gq K) hS (hlaw ns hl), fun base _ _ => fn_ok (g := gq K) F fs_law (b_law T S)⟩
end Law

set_option Elab.async false
set_option linter.all false
set_option maxRecDepth 100000
set_option maxHeartbeats 4000000
set_option exponentiation.threshold 100000
namespace Law
open PySem PySem.Spec L2 Sz
/-- a hand at k, drawn from at most n times -/
def HandB (μ : Sto) (k n : Nat) : Prop := ∃ a b c : Int, μ[k]? = some (.lst [.int a, .int b, .int c]) ∧ 0 ≤ c ∧ c ≤ n
theorem HandB.mono {μ : Sto} {k n m : Nat} (h : HandB μ k n) (e : n ≤ m) : HandB μ k m := by
  obtain ⟨a, b, c, h1, h4, h5⟩ := h
  exact ⟨a, b, c, h1, h4, by omega⟩
theorem fmod_range {i m : Int} (h : 0 < m) : 0 ≤ i.fmod m ∧ i.fmod m < m := ⟨Int.fmod_nonneg_of_pos i h, Int.fmod_lt_of_pos i h⟩
theorem prime_at {i : Int} (h0 : 0 ≤ i) (h1 : i < 4) : ∃ p : Int, dIx (.lst [.int 2305843009213693951, .int 999999999989, .int 1000000000039, .int 67280421310721]) (.int i) = some (.val (.int p)) ∧ 0 < p ∧ Bd 61 p := by
  have h : i = 0 ∨ i = 1 ∨ i = 2 ∨ i = 3 := by omega
  rcases h with rfl | rfl | rfl | rfl
  · exact ⟨_, rfl, by decide, by unfold Bd; decide⟩
  · exact ⟨_, rfl, by decide, by unfold Bd; decide⟩
  · exact ⟨_, rfl, by decide, by unfold Bd; decide⟩
  · exact ⟨_, rfl, by decide, by unfold Bd; decide⟩
theorem take_spec {μ : Sto} {k n : Nat} {m : Int} (h : HandB μ k n) (hn : n < 2 ^ 200) (hm : 0 < m) (hl : Bd 8000 m) :
    ∃ d μ', fi_l_take.sem [.cell k, .val (.int m)] μ = some (.ok (.val (.int d)), μ') ∧ 0 ≤ d ∧ d < m ∧ HandB μ' k (n + 1) ∧ Upd k μ μ' := by
  obtain ⟨a, b, c, h1, h4, h5⟩ := h
  have hm0 : m ≠ 0 := by omega
  rw [show fi_l_take.sem [.cell k, .val (.int m)] μ = finF μ.length (c_l_take [some (.cell k), some (.val (.int m)), none, none, none, none] μ) from rfl]
  unfold c_l_take
  by_cases ha : 0 < a
  · have q1 := mod_ii (i := a) hm0
    have q2 := fdiv_ii (i := a) 8000 hm0 hl
    have q3 : ∀ (s : S) (d : D) (ρ : En), rt s = .val d → ρ[0]? = some (some (.cell k)) → gSubM (mVar 0) (mK (.int 0)) s ρ μ = some (ρ, μ.set k (.lst ([D.int a, .int b, .int c].set 0 d))) := fun s d ρ hs hr =>
      gSub_cell hs (by rw [mVar_ap, hr]; rfl) rfl h1 rfl
    simp only [ev, List.getElem?_cons_zero, List.getElem?_cons_succ, List.set_cons_zero, List.set_cons_succ, decide_eq_true_eq, Bool.not_eq_true', decide_eq_false_iff_not, Nat.reduceAdd, Bool.not_true, Bool.not_false, Option.map_some, Option.map_none, h1, q1, q2, ha]
    rw [q3 _ _ _ rfl rfl]
    simp only [ev, List.getElem?_cons_zero, List.getElem?_cons_succ, List.set_cons_zero, List.set_cons_succ, decide_eq_true_eq, Bool.not_eq_true', decide_eq_false_iff_not, Nat.reduceAdd, Bool.not_true, Bool.not_false, Option.map_some, Option.map_none]
    have r := fmod_range (i := a) hm
    refine ⟨_, _, rfl, r.1, r.2, ?_, ?_⟩
    · rw [Upd.set.take]
      exact ⟨_, b, c, get_set h1, h4, by omega⟩
    · rw [Upd.set.take]
      exact Upd.set
  · have c1 : Bd 201 (c + 1) := by unfold Bd; omega
    have q3 : ∀ (s : S) (d : D) (ρ : En), rt s = .val d → ρ[0]? = some (some (.cell k)) → gSubM (mVar 0) (mK (.int 2)) s ρ μ = some (ρ, μ.set k (.lst ([D.int a, .int b, .int c].set 2 d))) := fun s d ρ hs hr =>
      gSub_cell hs (by rw [mVar_ap, hr]; rfl) rfl h1 rfl
    have d0 := mod_ii (i := c + 1) (j := 4) (by decide)
    have r0 := fmod_range (i := c + 1) (m := 4) (by decide)
    obtain ⟨p, e0, p0, pb⟩ := prime_at r0.1 r0.2
    have pn : p ≠ 0 := by omega
    have g1 := get_set (c := .lst [.int a, .int b, .int (c + 1)]) h1
    have u1 : Upd k μ (μ.set k (.lst [.int a, .int b, .int (c + 1)])) := Upd.set
    have m1 := mul_bd 13 201 (show Bd 13 (7919 : Int) by unfold Bd; decide) c1
    have m2 := mul_bd (13 + 201) 201 ((show Bd 13 (7919 : Int) by unfold Bd; decide).mul c1) c1
    have m3 := mul_bd 17 201 (show Bd 17 (65537 : Int) by unfold Bd; decide) c1
    have d1 := mod_ii (i := b + 7919 * (c + 1) * (c + 1) + 65537 * (c + 1)) pn
    have r1 := fmod_range (i := b + 7919 * (c + 1) * (c + 1) + 65537 * (c + 1)) p0
    simp only [ev, List.getElem?_cons_zero, List.getElem?_cons_succ, List.set_cons_zero, List.set_cons_succ, decide_eq_true_eq, Bool.not_eq_true', decide_eq_false_iff_not, Nat.reduceAdd, Bool.not_true, Bool.not_false, Option.map_some, Option.map_none, h1, ha]
    rw [q3 _ _ _ rfl rfl]
    simp only [ev, List.getElem?_cons_zero, List.getElem?_cons_succ, List.set_cons_zero, List.set_cons_succ, decide_eq_true_eq, Bool.not_eq_true', decide_eq_false_iff_not, Nat.reduceAdd, Bool.not_true, Bool.not_false, Option.map_some, Option.map_none]
    generalize μ.set k (.lst [.int a, .int b, .int (c + 1)]) = μ1 at g1 u1 ⊢
    simp only [ev, List.getElem?_cons_zero, List.getElem?_cons_succ, List.set_cons_zero, List.set_cons_succ, decide_eq_true_eq, Bool.not_eq_true', decide_eq_false_iff_not, Nat.reduceAdd, Bool.not_true, Bool.not_false, Option.map_some, Option.map_none, g1, d0, e0, m1, m2, m3, d1]
    generalize (b + 7919 * (c + 1) * (c + 1) + 65537 * (c + 1)).fmod p = y at r1 ⊢
    have by1 : Bd 61 y := by unfold Bd at *; omega
    have p1 := pow_ii (j := 5) 61 by1 (by decide) (by decide)
    generalize y ^ (5 : Int).toNat = z at p1
    have d2 := mod_ii (i := z) pn
    have r2 := fmod_range (i := z) p0
    simp only [ev, List.getElem?_cons_zero, List.getElem?_cons_succ, List.set_cons_zero, List.set_cons_succ, decide_eq_true_eq, Bool.not_eq_true', decide_eq_false_iff_not, Nat.reduceAdd, Bool.not_true, Bool.not_false, Option.map_some, Option.map_none, p1, d2]
    generalize z.fmod p = t at r2 ⊢
    have bt : Bd 61 t := by unfold Bd at *; omega
    have f1 := fdiv_ii (i := t) (j := 4099) 13 (by decide) (by unfold Bd; decide)
    have f2 := fdiv_ii (i := t) (j := 1000003) 20 (by decide) (by unfold Bd; decide)
    have m4 : dMul (.int (t.fdiv 1000003)) (.int 7) = some (.val (.int (t.fdiv 1000003 * 7))) := mul_ii (mulOk_right (by unfold Bd; decide))
    have d4 := mod_ii (i := t.fdiv 4099 + t.fdiv 1000003 * 7) hm0
    have r := fmod_range (i := t.fdiv 4099 + t.fdiv 1000003 * 7) hm
    simp only [ev, List.getElem?_cons_zero, List.getElem?_cons_succ, List.set_cons_zero, List.set_cons_succ, decide_eq_true_eq, Bool.not_eq_true', decide_eq_false_iff_not, Nat.reduceAdd, Bool.not_true, Bool.not_false, Option.map_some, Option.map_none, f1, f2, m4, d4]
    refine ⟨_, _, rfl, r.1, r.2, ?_, ?_⟩
    · rw [u1.take]
      exact ⟨_, b, c + 1, g1, by omega, by omega⟩
    · rw [u1.take]
      exact u1
theorem take_call {μ : Sto} {k n : Nat} {m : Int} (h : HandB μ k n) (hm : 0 < m) (hl : Bd 8000 m) (hn : n < 2 ^ 200 := by omega) :
    ∃ d μ', callF fi_l_take 2 [] [.cell k, .val (.int m)] [] μ = some (.ok (.val (.int d)), μ') ∧ 0 ≤ d ∧ d < m ∧ HandB μ' k (n + 1) ∧ Upd k μ μ' := by
  rw [show callF fi_l_take 2 [] [.cell k, .val (.int m)] [] μ = fi_l_take.sem [.cell k, .val (.int m)] μ from callF_eq rfl rfl rfl]
  exact take_spec h hn hm hl
theorem of_call {μ : Sto} {k n : Nat} {ds : List D} (h : HandB μ k n) (h0 : 0 < ds.length) (h1 : ds.length < 2 ^ 60) (hn : n < 2 ^ 200 := by omega) :
    ∃ d μ', callF fi_l_of 2 [] [.cell k, .val (.lst ds)] [] μ = some (.ok (.val d), μ') ∧ d ∈ ds ∧ HandB μ' k (n + 1) ∧ Upd k μ μ' := by
  rw [cl_l_of_2, sem_l_of]
  unfold c_l_of
  obtain ⟨d, μ1, e, r1, r2, H1, u1⟩ := take_call (m := (ds.length : Int)) h (by omega) (by
    unfold Bd
    have : (2 : Nat) ^ 60 ≤ 2 ^ 8000 := Nat.pow_le_pow_right (by decide) (by decide)
    omega)
  obtain ⟨x, e2, hx⟩ := atI_mem r1 r2
  simp only [ev, List.getElem?_cons_zero, List.getElem?_cons_succ, List.set_cons_zero, List.set_cons_succ, decide_eq_true_eq, Bool.not_eq_true', decide_eq_false_iff_not, Nat.reduceAdd, Bool.not_true, Bool.not_false, Option.map_some, Option.map_none, e, e2]
  exact ⟨x, _, rfl, hx, by rw [u1.take]; exact H1, by rw [u1.take]; exact u1⟩
theorem hand_call {μ : Sto} {ns : List Int} {k : Nat} : ∃ a b : Int, callF fi_l_hand 2 [] [.val (.scr ns), .val (.int k)] [] μ = some (.ok (.fr [.int a, .int b, .int 0]), μ) := by
  rw [cl_l_hand_2, sem_l_hand]
  unfold c_l_hand
  have p1 := pow_ii (i := 10) (j := 18) 4 (by unfold Bd; decide) (by decide) (by decide)
  have m1 : dMul (.int 104729) (.int (k : Int)) = some (.val (.int (104729 * (k : Int)))) := mul_ii (mulOk_left (by unfold Bd; decide))
  have d1 := fun z : Int => mod_ii (i := z) (j := 2305843009213693951) (by decide)
  generalize (10 : Int) ^ (18 : Int).toNat = T at p1
  have key : ∀ z : Int, ∃ a b : Int, (finF μ.length (seqK (some (.nx, [some (.val (.scr ns)), some (.val (.int k)), some (.val (.int z)), none], μ)) (sSeq (sAsg (gNm 3 false) (mCallB bAbs [mVar 2])) (sSeq (sIf (tBl (mOp2 dLt (mVar 3) (mOp2 dPow (mK (.int 10)) (mK (.int 18))))) (sSeq (sAsg (gNm 3 false) (mK (.int 0))) sNil) sNil) (sSeq (sRet (mList [mVar 3, mOp2 dAdd (mOp2 dAdd (mOp2 dMod (mVar 2) (mK (.int 2305843009213693951))) (mOp2 dMul (mK (.int 104729)) (mVar 1))) (mK (.int 61)), mK (.int 0)])) sNil))))) = some (.ok (.fr [.int a, .int b, .int 0]), μ) := by
    intro z
    have d2 := d1 z
    generalize z.fmod 2305843009213693951 = y at d2
    by_cases hz : (z.natAbs : Int) < T
    · simp only [ev, List.getElem?_cons_zero, List.getElem?_cons_succ, List.set_cons_zero, List.set_cons_succ, decide_eq_true_eq, Bool.not_eq_true', decide_eq_false_iff_not, Nat.reduceAdd, Bool.not_true, Bool.not_false, Option.map_some, Option.map_none, p1, m1, d2, hz, List.take_length]
      exact ⟨_, _, rfl⟩
    · simp only [ev, List.getElem?_cons_zero, List.getElem?_cons_succ, List.set_cons_zero, List.set_cons_succ, decide_eq_true_eq, Bool.not_eq_true', decide_eq_false_iff_not, Nat.reduceAdd, Bool.not_true, Bool.not_false, Option.map_some, Option.map_none, p1, m1, d2, hz, List.take_length]
      exact ⟨_, _, rfl⟩
  by_cases hk : (k : Int) < ns.length
  · obtain ⟨z, hz, _⟩ := atI_mem (l := ns) (i := (k : Int)) (by omega) hk
    obtain ⟨a, b, h1⟩ := key z
    refine ⟨a, b, ?_⟩
    rw [← h1]
    simp only [ev, List.getElem?_cons_zero, List.getElem?_cons_succ, List.set_cons_zero, List.set_cons_succ, decide_eq_true_eq, Bool.not_eq_true', decide_eq_false_iff_not, Nat.reduceAdd, Bool.not_true, Bool.not_false, Option.map_some, Option.map_none, hk, hz]
  · obtain ⟨a, b, h1⟩ := key 0
    refine ⟨a, b, ?_⟩
    rw [← h1]
    simp only [ev, List.getElem?_cons_zero, List.getElem?_cons_succ, List.set_cons_zero, List.set_cons_succ, decide_eq_true_eq, Bool.not_eq_true', decide_eq_false_iff_not, Nat.reduceAdd, Bool.not_true, Bool.not_false, Option.map_some, Option.map_none, hk]
theorem isi_int {i : Int} : bIsi nKit nKit subK [.int i, .ty "int"] = some (.val (.bl true)) := rfl
theorem isi_int_b {i : Int} : bIsi nKit nKit subK [.int i, .ty "bool"] = some (.val (.bl false)) := rfl
theorem isi_bl_b {b : Bool} : bIsi nKit nKit subK [.bl b, .ty "bool"] = some (.val (.bl true)) := rfl
theorem is_whole_int {i : Int} {μ : Sto} : callF fi_is_whole 1 [] [.val (.int i)] [] μ = some (.ok (.val (.bl true)), μ) := by
  rw [show callF fi_is_whole 1 [] [.val (.int i)] [] μ = fi_is_whole.sem [.val (.int i)] μ from callF_eq rfl rfl rfl]
  rw [show fi_is_whole.sem [.val (.int i)] μ = finF μ.length (c_is_whole [some (.val (.int i))] μ) from rfl]
  unfold c_is_whole
  simp only [ev, List.getElem?_cons_zero, List.getElem?_cons_succ, List.set_cons_zero, List.set_cons_succ, decide_eq_true_eq, Bool.not_eq_true', decide_eq_false_iff_not, Nat.reduceAdd, Bool.not_true, Bool.not_false, Option.map_some, Option.map_none, isi_int, isi_int_b]
  rw [List.take_length]
  all_goals rfl
theorem common_call {a b : Nat} {μ : Sto} : callF fi_common_part 2 [] [.val (.int (a : Int)), .val (.int (b : Int))] [] μ = some (.ok (.val (.int (Nat.gcd a b : Int))), μ) := by
  rw [show callF fi_common_part 2 [] [.val (.int (a : Int)), .val (.int (b : Int))] [] μ = fi_common_part.sem [.val (.int (a : Int)), .val (.int (b : Int))] μ from callF_eq rfl rfl rfl]
  rw [show fi_common_part.sem [.val (.int (a : Int)), .val (.int (b : Int))] μ = finF μ.length (c_common_part [some (.val (.int (a : Int))), some (.val (.int (b : Int)))] μ) from rfl]
  unfold c_common_part
  obtain ⟨n, hn⟩ := euclid (t := tBl (mOp2 dGt (mVar 1) (mK (.int 0)))) (b := c_common_part_b1) (mk := fun x y => [some (.val (.int (x : Int))), some (.val (.int (y : Int)))]) (μ := μ)
    (fun x => by simp only [ev, List.getElem?_cons_zero, List.getElem?_cons_succ, List.set_cons_zero, List.set_cons_succ, decide_eq_true_eq, Bool.not_eq_true', decide_eq_false_iff_not, Nat.reduceAdd, Bool.not_true, Bool.not_false, Option.map_some, Option.map_none]; rfl) (fun x y hy => by simp only [ev, List.getElem?_cons_zero, List.getElem?_cons_succ, List.set_cons_zero, List.set_cons_succ, decide_eq_true_eq, Bool.not_eq_true', decide_eq_false_iff_not, Nat.reduceAdd, Bool.not_true, Bool.not_false, Option.map_some, Option.map_none]; rw [decide_eq_true (by omega)]) (fun x y hy => by
      have q := mod_ii (i := (x : Int)) (j := (y : Int)) (by omega)
      unfold c_common_part_b1
      simp only [ev, List.getElem?_cons_zero, List.getElem?_cons_succ, List.set_cons_zero, List.set_cons_succ, decide_eq_true_eq, Bool.not_eq_true', decide_eq_false_iff_not, Nat.reduceAdd, Bool.not_true, Bool.not_false, Option.map_some, Option.map_none, q]
      rw [Int.fmod_eq_emod_of_nonneg _ (by omega)]
      rfl) b a
  have hn := sWhile_eq n hn
  simp only [ev, List.getElem?_cons_zero, List.getElem?_cons_succ, List.set_cons_zero, List.set_cons_succ, decide_eq_true_eq, Bool.not_eq_true', decide_eq_false_iff_not, Nat.reduceAdd, Bool.not_true, Bool.not_false, Option.map_some, Option.map_none, hn]
  rw [List.take_length]
theorem fd_exact {i j : Int} (h : j ∣ i) (hj : j ≠ 0) : i.fdiv j * j = i := Int.fdiv_mul_cancel h
theorem bd_dvd {n : Nat} {i j : Int} (h : j ∣ i) (hj : j ≠ 0) (hb : Bd n i) : Bd n (i.fdiv j) := by
  have e := fd_exact h hj
  have h2 : (i.fdiv j * j).natAbs = i.natAbs := by rw [e]
  rw [Int.natAbs_mul] at h2
  unfold Bd at *
  have h3 : 0 < j.natAbs := by omega
  have : (i.fdiv j).natAbs ≤ (i.fdiv j).natAbs * j.natAbs := Nat.le_mul_of_pos_right _ h3
  omega
/-- Measure(a, b) of whole numbers, b not nought -/
theorem measure_make {n : Nat} {a b : Int} (hb : b ≠ 0) (h1 : Bd n a) (h2 : Bd n b) (hn9 : n ≤ 9000 := by decide) :
    ∃ t u : Int, (∀ μ : Sto, callM mk_Measure 2 [] [.val (.int a), .val (.int b)] [] μ = some (.ok (.val (.obj 0 [.int t, .int u])), μ)) ∧ 0 < u ∧ t * b = a * u ∧ Bd n t ∧ Bd n u ∧ Nat.gcd t.natAbs u.natAbs = 1 := by
  have hg : 0 < Nat.gcd a.natAbs b.natAbs := Nat.gcd_pos_of_pos_right _ (by omega)
  have da : (Nat.gcd a.natAbs b.natAbs : Int) ∣ a := Int.ofNat_dvd_left.mpr (Nat.gcd_dvd_left _ _)
  have db : (Nat.gcd a.natAbs b.natAbs : Int) ∣ b := Int.ofNat_dvd_left.mpr (Nat.gcd_dvd_right _ _)
  have bg : Bd n (Nat.gcd a.natAbs b.natAbs : Int) := by
    have : Nat.gcd a.natAbs b.natAbs ≤ b.natAbs := Nat.gcd_le_right _ (by omega)
    unfold Bd at *
    omega
  generalize hG : Nat.gcd a.natAbs b.natAbs = G at *
  have fin : ∀ p : Int, p ≠ 0 → p ∣ a → p ∣ b → Bd n p → p.natAbs = G → 0 < b.fdiv p → (∀ μ : Sto, finM mk_Measure μ.length (finF (μ ++ [C.ins 0 []]).length (seqK (some (.nx, [some (.cell μ.length), some (.val (.int a)), some (.val (.int b)), some (.val (.int p))], μ ++ [.ins 0 []])) (sSeq (sFldM nCls "top" (mVar 0) (mOp2 dFdiv (mVar 1) (mVar 3))) (sSeq (sFldM nCls "bottom" (mVar 0) (mOp2 dFdiv (mVar 2) (mVar 3))) sNil)))) = some (.ok (.val (.obj 0 [.int (a.fdiv p), .int (b.fdiv p)])), μ)) ∧ 0 < b.fdiv p ∧ a.fdiv p * b = a * b.fdiv p ∧ Bd n (a.fdiv p) ∧ Bd n (b.fdiv p) ∧ Nat.gcd (a.fdiv p).natAbs (b.fdiv p).natAbs = 1 := by
    intro p hp da db bp hpG hu
    have f1 := fdiv_ii (i := a) n hp bp hn9
    have f2 := fdiv_ii (i := b) n hp bp hn9
    refine ⟨fun μ => ?_, hu, ?_, bd_dvd da hp h1, bd_dvd db hp h2, ?_⟩
    · rw [seqK_nx, sSeq_ap, fld_ap (d := .int (a.fdiv p)) (k := μ.length) (c := 0) (fs := []) (by simp only [ev, List.getElem?_cons_zero, List.getElem?_cons_succ, List.set_cons_zero, List.set_cons_succ, decide_eq_true_eq, Bool.not_eq_true', decide_eq_false_iff_not, Nat.reduceAdd, Bool.not_true, Bool.not_false, Option.map_some, Option.map_none, f1]) (by simp only [ev, List.getElem?_cons_zero, List.getElem?_cons_succ, List.set_cons_zero, List.set_cons_succ, decide_eq_true_eq, Bool.not_eq_true', decide_eq_false_iff_not, Nat.reduceAdd, Bool.not_true, Bool.not_false, Option.map_some, Option.map_none]) get_end (by decide) (by decide), set_end]
      rw [show putD ("top" : Str) (D.int (a.fdiv p)) [] = [(("top" : Str), D.int (a.fdiv p))] from rfl]
      rw [seqK_nx, sSeq_ap, fld_ap (n := nCls) (d := .int (b.fdiv p)) (k := μ.length) (c := 0) (fs := [("top", .int (a.fdiv p))]) (by simp only [ev, List.getElem?_cons_zero, List.getElem?_cons_succ, List.set_cons_zero, List.set_cons_succ, decide_eq_true_eq, Bool.not_eq_true', decide_eq_false_iff_not, Nat.reduceAdd, Bool.not_true, Bool.not_false, Option.map_some, Option.map_none, f2]) (by simp only [ev, List.getElem?_cons_zero, List.getElem?_cons_succ, List.set_cons_zero, List.set_cons_succ, decide_eq_true_eq, Bool.not_eq_true', decide_eq_false_iff_not, Nat.reduceAdd, Bool.not_true, Bool.not_false, Option.map_some, Option.map_none]) get_end (by decide) (by show _ < 1000; simp), set_end]
      rw [show putD ("bottom" : Str) (D.int (b.fdiv p)) [(("top" : Str), D.int (a.fdiv p))] = [(("top" : Str), D.int (a.fdiv p)), (("bottom" : Str), D.int (b.fdiv p))] from rfl]
      rw [seqK_nx, sNil_ap, finF_nx, List.length_append, List.take_of_length_le (by rw [List.length_append]; exact Nat.le_refl _)]
      rw [finM_ap (c := 0) (fs := [("top", .int (a.fdiv p)), ("bottom", .int (b.fdiv p))]) get_end rfl rfl, take_end]
      rfl
    · have ea := fd_exact da hp
      have eb := fd_exact db hp
      generalize a.fdiv p = x at *
      generalize b.fdiv p = y at *
      subst ea eb
      rw [Int.mul_comm y p, ← Int.mul_assoc]
    · have ea := congrArg Int.natAbs (fd_exact da hp)
      have eb := congrArg Int.natAbs (fd_exact db hp)
      rw [Int.natAbs_mul, hpG] at ea eb
      rw [← ea, ← eb, Nat.gcd_mul_right] at hG
      exact Nat.eq_of_mul_eq_mul_right hg (by rw [hG, Nat.one_mul])
  have hb0 : decide (b = 0) = false := decide_eq_false hb
  have q1 : (if b < 0 then (-b : Int) else b) = (b.natAbs : Int) := by split <;> omega
  have cc : ∀ μ : Sto, callF fi_common_part 2 [] [.val (.int (a.natAbs : Int)), .val (.int (b.natAbs : Int))] [] (μ ++ [.ins 0 []]) = some (.ok (.val (.int (G : Int))), μ ++ [.ins 0 []]) := fun μ => by rw [common_call, hG]
  have start : ∀ μ : Sto, callM mk_Measure 2 [] [.val (.int a), .val (.int b)] [] μ = finM mk_Measure μ.length (finF (μ ++ [C.ins 0 []]).length (c_Measure___init__ [some (.cell μ.length), some (.val (.int a)), some (.val (.int b)), none] (μ ++ [.ins 0 []]))) := fun μ =>
    (show callM mk_Measure 2 [] [.val (.int a), .val (.int b)] [] μ = finM mk_Measure μ.length (fi_Measure___init__.sem [.cell μ.length, .val (.int a), .val (.int b)] (μ ++ [.ins 0 []])) from callM_eq rfl rfl rfl).trans rfl
  by_cases hn : b < 0
  · obtain ⟨e, r⟩ := fin (0 - (G : Int)) (by omega) (by rw [Int.zero_sub]; exact Int.neg_dvd.mpr da) (by rw [Int.zero_sub]; exact Int.neg_dvd.mpr db) (by rw [Int.zero_sub]; exact bg.neg) (by omega) (by
      have e := fd_exact (i := b) (j := 0 - (G : Int)) (by rw [Int.zero_sub]; exact Int.neg_dvd.mpr db) (by omega)
      by_cases h : 0 < b.fdiv (0 - (G : Int))
      · exact h
      · have h0 : b.fdiv (0 - (G : Int)) ≤ 0 := by omega
        have : 0 ≤ b.fdiv (0 - (G : Int)) * (0 - (G : Int)) := Int.mul_nonneg_of_nonpos_of_nonpos h0 (by omega)
        omega)
    refine ⟨_, _, fun μ => ?_, r⟩
    rw [← e, start]
    unfold c_Measure___init__
    simp only [ev, List.getElem?_cons_zero, List.getElem?_cons_succ, List.set_cons_zero, List.set_cons_succ, decide_eq_true_eq, Bool.not_eq_true', decide_eq_false_iff_not, Nat.reduceAdd, Bool.not_true, Bool.not_false, Option.map_some, Option.map_none, is_whole_int, hb0, cc, hn, Bool.not_true, hb]
  · obtain ⟨e, r⟩ := fin (G : Int) (by omega) da db bg (by omega) (by
      have e := fd_exact (i := b) (j := (G : Int)) db (by omega)
      by_cases h : 0 < b.fdiv (G : Int)
      · exact h
      · have h0 : b.fdiv (G : Int) ≤ 0 := by omega
        have : b.fdiv (G : Int) * (G : Int) ≤ 0 := Int.mul_nonpos_of_nonpos_of_nonneg h0 (by omega)
        omega)
    refine ⟨_, _, fun μ => ?_, r⟩
    rw [← e, start]
    unfold c_Measure___init__
    simp only [ev, List.getElem?_cons_zero, List.getElem?_cons_succ, List.set_cons_zero, List.set_cons_succ, decide_eq_true_eq, Bool.not_eq_true', decide_eq_false_iff_not, Nat.reduceAdd, Bool.not_true, Bool.not_false, Option.map_some, Option.map_none, is_whole_int, hb0, cc, hn, Bool.not_true, hb]
abbrev Ob (t u : Int) : D := .obj 0 [.int t, .int u]
theorem fld_top {μ : Sto} {t u : Int} : fldK μ [.int t, .int u] (fldIx tFls 0 "top") = some (.ok (.val (.int t)), μ) := rfl
theorem fld_bottom {μ : Sto} {t u : Int} : fldK μ [.int t, .int u] (fldIx tFls 0 "bottom") = some (.ok (.val (.int u)), μ) := rfl
/-- (t, u) is the fraction a / b in lowest terms -/
structure IsM (n : Nat) (t u a b : Int) : Prop where
  pos : 0 < u
  eq : t * b = a * u
  b1 : Bd n t
  b2 : Bd n u
  low : Nat.gcd t.natAbs u.natAbs = 1
theorem make_ex {n : Nat} {a b : Int} (hb : b ≠ 0) (h1 : Bd n a) (h2 : Bd n b) (hn9 : n ≤ 9000 := by decide) : ∃ t u : Int, (∀ μ : Sto, callM mk_Measure 2 [] [.val (.int a), .val (.int b)] [] μ = some (.ok (.val (Ob t u)), μ)) ∧ IsM n t u a b := by
  obtain ⟨t, u, e, h1, h2, h3, h4, h5⟩ := measure_make hb h1 h2 hn9
  exact ⟨t, u, e, h1, h2, h3, h4, h5⟩
/-! measures as fractions -/
abbrev mQ (q : Rat) : D := .obj 0 [.int q.num, .int (q.den : Int)]
/-- its numbers have at most so many bits -/
structure BQ (n : Nat) (q : Rat) : Prop where
  t : Bd n q.num
  b : Bd n (q.den : Int)
theorem BQ.mono {n m : Nat} {q : Rat} (h : BQ n q) (e : n ≤ m) : BQ m q := ⟨h.t.mono e, h.b.mono e⟩
theorem den0 (q : Rat) : (q.den : Int) ≠ 0 := by
  have := q.den_nz
  omega
theorem mQ_of {n : Nat} {t u a b : Int} (hb : b ≠ 0) (i : IsM n t u a b) : Ob t u = mQ (Rat.divInt a b) ∧ BQ n (Rat.divInt a b) := by
  have hu : u.toNat ≠ 0 := by have := i.pos; omega
  have hc : Nat.Coprime t.natAbs u.toNat := by
    have h := i.low
    have e : u.natAbs = u.toNat := by have := i.pos; omega
    rw [e] at h
    exact h
  have e : (⟨t, u.toNat, hu, hc⟩ : Rat) = Rat.divInt a b := by
    rw [← Rat.num_divInt_den ⟨t, u.toNat, hu, hc⟩]
    have hu2 : ((u.toNat : Nat) : Int) = u := Int.toNat_of_nonneg (Int.le_of_lt i.pos)
    show Rat.divInt t ((u.toNat : Nat) : Int) = _
    rw [hu2]
    exact (Rat.divInt_eq_divInt_iff (by have := i.pos; omega) hb).mpr i.eq
  rw [← e]
  have hu2 : ((u.toNat : Nat) : Int) = u := Int.toNat_of_nonneg (Int.le_of_lt i.pos)
  refine ⟨?_, i.b1, ?_⟩
  · show Ob t u = .obj 0 [.int t, .int ((u.toNat : Nat) : Int)]
    rw [hu2]
  · show Bd n ((u.toNat : Nat) : Int)
    rw [hu2]
    exact i.b2
theorem make_q {a b : Int} (n : Nat) (hb : b ≠ 0) (h1 : Bd n a) (h2 : Bd n b) (hn9 : n ≤ 9000 := by decide) : (∀ μ : Sto, callM mk_Measure 2 [] [.val (.int a), .val (.int b)] [] μ = some (.ok (.val (mQ (Rat.divInt a b))), μ)) ∧ BQ n (Rat.divInt a b) := by
  obtain ⟨t, u, e, i⟩ := make_ex hb h1 h2 hn9
  obtain ⟨e1, e2⟩ := mQ_of hb i
  rw [← e1]
  exact ⟨e, e2⟩
theorem q_top {μ : Sto} {q : Rat} : fldK μ [.int q.num, .int (q.den : Int)] (fldIx tFls 0 "top") = some (.ok (.val (.int q.num)), μ) := rfl
theorem q_bottom {μ : Sto} {q : Rat} : fldK μ [.int q.num, .int (q.den : Int)] (fldIx tFls 0 "bottom") = some (.ok (.val (.int (q.den : Int))), μ) := rfl
theorem below_sem {n m : Nat} {p q : Rat} {al : Bool} {μ : Sto} (hp : BQ n p) (hq : BQ m q) (e : n + m ≤ 100000000 := by decide) : fi_Measure_is_below.sem [.val (mQ p), .val (mQ q), .val (.bl al)] μ = some (.ok (.val (.bl (decide (p < q) || (al && decide (p = q))))), μ) := by
  rw [show fi_Measure_is_below.sem [.val (mQ p), .val (mQ q), .val (.bl al)] μ = finF μ.length (c_Measure_is_below [some (.val (mQ p)), some (.val (mQ q)), some (.val (.bl al)), none, none] μ) from rfl]
  unfold c_Measure_is_below
  have m1 := mul_bd n m hp.t hq.b (by omega)
  have m2 := mul_bd m n hq.t hp.b (by omega)
  simp only [ev, List.getElem?_cons_zero, List.getElem?_cons_succ, List.set_cons_zero, List.set_cons_succ, decide_eq_true_eq, Bool.not_eq_true', decide_eq_false_iff_not, Nat.reduceAdd, Bool.not_true, Bool.not_false, Option.map_some, Option.map_none, q_top, q_bottom, m1, m2]
  rw [List.take_length]
  have e1 : decide (p < q) = decide (p.num * (q.den : Int) < q.num * (p.den : Int)) := decide_eq_decide.mpr (Rat.lt_iff p q)
  have e2 : decide (p = q) = decide (p.num * (q.den : Int) = q.num * (p.den : Int)) := decide_eq_decide.mpr Rat.eq_iff_mul_eq_mul
  rw [e1, e2]
  by_cases h1 : p.num * (q.den : Int) < q.num * (p.den : Int)
  · simp [h1]
  · by_cases h2 : p.num * (q.den : Int) = q.num * (p.den : Int)
    · cases al <;> simp [h2]
    · cases al <;> simp [h1, h2]
theorem below2 {n m : Nat} {p q : Rat} {μ : Sto} (hp : BQ n p) (hq : BQ m q) (e : n + m ≤ 100000000 := by decide) : callF fi_Measure_is_below 2 [] [.val (mQ p), .val (mQ q)] [] μ = some (.ok (.val (.bl (decide (p < q)))), μ) := by
  rw [show callF fi_Measure_is_below 2 [] [.val (mQ p), .val (mQ q)] [] μ = fi_Measure_is_below.sem [.val (mQ p), .val (mQ q), .val (.bl false)] μ from callF_eq rfl rfl rfl, below_sem hp hq e]
  simp
theorem mtb : mt_is_below 0 = some fi_Measure_is_below := rfl
theorem HandB.push {μ : Sto} {k n : Nat} {c : C} (h : HandB μ k n) : HandB (μ ++ [c]) k n := by
  obtain ⟨a, b, c', h1, h2⟩ := h
  exact ⟨a, b, c', by rw [List.getElem?_append_left (List.getElem?_eq_some_iff.mp h1).1]; exact h1, h2⟩
theorem HandB.lt {μ : Sto} {k n : Nat} (h : HandB μ k n) : k < μ.length := by
  obtain ⟨a, b, c', h1, h2⟩ := h
  exact (List.getElem?_eq_some_iff.mp h1).1
theorem HandB.other {μ : Sto} {k n j : Nat} {c : C} (h : HandB μ k n) (e : j ≠ k) : HandB (μ.set j c) k n := by
  obtain ⟨a, b, c', h1, h2⟩ := h
  exact ⟨a, b, c', by rw [List.getElem?_set_ne e]; exact h1, h2⟩
def RowI (k kt : Nat) (way part many : Int) (L i : Nat) (ρ : En) (μ : Sto) : Prop :=
  ∃ (top : Int) (s6 : Option S) (ts : List Int), ρ = [some (.cell k), some (.val (.int way)), some (.val (.int part)), some (.val (.int many)), some (.cell kt), some (.val (.int top)), s6, none, none] ∧
    μ[kt]? = some (.lst (ts.map .int)) ∧ ts.length = i ∧ (∀ t ∈ ts, t.natAbs < 2 ^ 40) ∧ top.natAbs ≤ 10 + i * 50000 ∧ HandB μ k (20 + 10 * i) ∧ μ.length = L
theorem row_step {k kt L i : Nat} {way part many : Int} {ρ : En} {μ : Sto} (hkt : kt ≠ k) (hw : 0 ≤ way ∧ way < 7) (hp : 0 < part ∧ part ≤ 10007) (hi : i < 24) (h : RowI k kt way part many L i ρ μ) :
    ∃ ρ1 μ1, gNm 6 false (.val (.int (i : Int))) ρ μ = some (ρ1, μ1) ∧ ∃ ρ2 μ2, c_l_rows_b1 ρ1 μ1 = some (.nx, ρ2, μ2) ∧ RowI k kt way part many L (i + 1) ρ2 μ2 := by
  obtain ⟨top, s6, ts, rfl, h1, h2, h3, h4, h5, h6⟩ := h
  refine ⟨_, _, rfl, ?_⟩
  unfold c_l_rows_b1
  obtain ⟨d1, μ1, e1, a1, b1, H1, u1⟩ := take_call (m := 5) h5 (by decide) (by unfold Bd; decide)
  obtain ⟨d2, μ2, e2, a2, b2, H2, u2⟩ := take_call (m := 40) H1 (by decide) (by unfold Bd; decide)
  have t2 : μ2[kt]? = some (.lst (ts.map .int)) := by rw [u2.2 kt hkt, u1.2 kt hkt, h1]
  have hx : ∃ x : Int, dIx (.lst [.int top, .int top, .int top, .int top, .int d1, .int (d2 - 20), .int (0 - top)]) (.int way) = some (.val (.int x)) ∧ x.natAbs < 2 ^ 40 := by
    have hc : way = 0 ∨ way = 1 ∨ way = 2 ∨ way = 3 ∨ way = 4 ∨ way = 5 ∨ way = 6 := by omega
    rcases hc with rfl | rfl | rfl | rfl | rfl | rfl | rfl
    · exact ⟨_, rfl, by omega⟩
    · exact ⟨_, rfl, by omega⟩
    · exact ⟨_, rfl, by omega⟩
    · exact ⟨_, rfl, by omega⟩
    · exact ⟨_, rfl, by omega⟩
    · exact ⟨_, rfl, by omega⟩
    · exact ⟨_, rfl, by omega⟩
  obtain ⟨x, ex, bx⟩ := hx
  have la : lApp (ts.map D.int) [.int x] = some (.non, (ts ++ [x]).map D.int) := by
    rw [lApp_ok (by rw [List.length_map]; omega), List.map_append]
    rfl
  have m1 : dMul (.int 4) (.int part) = some (.val (.int (4 * part))) := mul_ii (mulOk_left (by unfold Bd; decide))
  have H3 : HandB (μ2.set kt (.lst ((ts ++ [x]).map D.int))) k (20 + 10 * i + 1 + 1) := H2.other hkt
  obtain ⟨d3, μ3, e3, a3, b3, H4, u3⟩ := take_call (m := 4 * part) H3 (by omega) (by
    unfold Bd
    have : (40028 : Nat) < 2 ^ 8000 := Nat.lt_of_lt_of_le (show 40028 < 2 ^ 16 by decide) (Nat.pow_le_pow_right (by decide) (by decide))
    omega)
  obtain ⟨d4, μ4, e4, m4, H5, u4⟩ := of_call (ds := [.int 0, .int 0, .int d3]) H4 (by show 0 < 3; decide) (by show 3 < 2 ^ 60; decide)
  have hd4 : ∃ y : Int, d4 = .int y ∧ 0 ≤ y ∧ y ≤ 40028 := by
    simp only [List.mem_cons, List.not_mem_nil, or_false] at m4
    rcases m4 with rfl | rfl | rfl
    · exact ⟨0, rfl, by decide, by decide⟩
    · exact ⟨0, rfl, by decide, by decide⟩
    · exact ⟨d3, rfl, a3, by omega⟩
  obtain ⟨y, rfl, y0, y1⟩ := hd4
  simp only [ev, List.getElem?_cons_zero, List.getElem?_cons_succ, List.set_cons_zero, List.set_cons_succ, decide_eq_true_eq, Bool.not_eq_true', decide_eq_false_iff_not, Nat.reduceAdd, Bool.not_true, Bool.not_false, Option.map_some, Option.map_none, h1, e1, e2, t2, ex, la, m1, e3, e4]
  refine ⟨_, _, rfl, top + 1 + y, _, ts ++ [x], rfl, ?_, ?_, ?_, ?_, ?_, ?_⟩
  · rw [u4.2 kt hkt, u3.2 kt hkt, get_set t2]
  · rw [List.length_append, h2]; rfl
  · intro t ht
    rcases List.mem_append.mp ht with q | q
    · exact h3 t q
    · rw [List.mem_singleton] at q
      rw [q]
      exact bx
  · omega
  · exact H5.mono (by omega)
  · rw [u4.1, u3.1, List.length_set, u2.1, u1.1, h6]
theorem rows_call {μ : Sto} {k : Nat} (h : HandB μ k 0) : ∃ (part : Int) (ts : List Int) (μ' : Sto), callF fi_l_rows 1 [] [.cell k] [] μ = some (.ok (.val (.tup [.int part, .tup (ts.map .int)])), μ') ∧ 0 < part ∧ part ≤ 10007 ∧ 1 ≤ ts.length ∧ ts.length ≤ 24 ∧ (∀ t ∈ ts, t.natAbs < 2 ^ 41) := by
  rw [cl_l_rows_1, sem_l_rows]
  unfold c_l_rows
  obtain ⟨way, μ1, e1, w1, w2, H1, u1⟩ := take_call (m := 7) h (by decide) (by unfold Bd; decide)
  obtain ⟨dp, μ2, e2, mp, H2, u2⟩ := of_call (ds := [.int 1, .int 2, .int 3, .int 12, .int 10007]) H1 (by decide) (by decide)
  have hdp : ∃ part : Int, dp = .int part ∧ 0 < part ∧ part ≤ 10007 := by
    simp only [List.mem_cons, List.not_mem_nil, or_false] at mp
    rcases mp with rfl | rfl | rfl | rfl | rfl
    all_goals exact ⟨_, rfl, by decide, by decide⟩
  obtain ⟨part, rfl, p1, p2⟩ := hdp
  obtain ⟨dm, μ3, e3, mm, H3, u3⟩ := of_call (ds := [.int 1, .int 2, .int 3, .int 4, .int 6, .int 9, .int 24]) H2 (by decide) (by decide)
  have hdm : ∃ many : Nat, dm = .int (many : Int) ∧ 1 ≤ many ∧ many ≤ 24 := by
    simp only [List.mem_cons, List.not_mem_nil, or_false] at mm
    rcases mm with rfl | rfl | rfl | rfl | rfl | rfl | rfl
    · exact ⟨1, rfl, by decide, by decide⟩
    · exact ⟨2, rfl, by decide, by decide⟩
    · exact ⟨3, rfl, by decide, by decide⟩
    · exact ⟨4, rfl, by decide, by decide⟩
    · exact ⟨6, rfl, by decide, by decide⟩
    · exact ⟨9, rfl, by decide, by decide⟩
    · exact ⟨24, rfl, by decide, by decide⟩
  obtain ⟨many, rfl, n1, n2⟩ := hdm
  have nil0 : ∀ ν : Sto, finL [] ν = some (.ok (.fr []), ν) := fun ν => finL_vals rfl (by decide)
  obtain ⟨t0, μ4, e4, a4, b4, H4, u4⟩ := take_call (m := 9) (H3.push (c := .lst [])) (by decide) (by unfold Bd; decide)
  have kt : μ3.length ≠ k := by have := H3.lt; omega
  have i0 : RowI k μ3.length way part (many : Int) μ4.length 0 [some (.cell k), some (.val (.int way)), some (.val (.int part)), some (.val (.int (many : Int))), some (.cell μ3.length), some (.val (.int (t0 - 4))), none, none, none] μ4 :=
    ⟨t0 - 4, none, [], rfl, by rw [u4.2 _ kt, get_end]; rfl, rfl, fun t ht => absurd ht (by simp), by omega, H4.mono (by omega), rfl⟩
  obtain ⟨ρ', μ5, e5, hI⟩ := floop_ix (t := gNm 6 false) (b := c_l_rows_b1) (RowI k μ3.length way part (many : Int) μ4.length) (rangeD 0 many) 0 _ μ4 (fun i d ρ ν hd hI => by
    obtain ⟨hi, rfl⟩ := rangeD_get hd
    rw [Int.zero_add]
    rw [Nat.zero_add] at hI ⊢
    exact row_step kt ⟨w1, w2⟩ ⟨p1, p2⟩ (by omega) hI) i0
  rw [rangeD_len, Nat.zero_add] at hI
  obtain ⟨top, s6, ts, rfl, h1, h2, h3, h4, H5, h6⟩ := hI
  have hr : ∀ ρ : En, ρ[3]? = some (some (.val (.int (many : Int)))) → ∀ ν : Sto, iRange1 (mVar 3) ρ ν = some (.ok (rangeD 0 many), ν) := fun ρ hρ ν => iRange1_to (by rw [mVar_ap, hρ]; rfl) (by omega)
  obtain ⟨at_, μ6, e6, a6, b6, H6, u6⟩ := take_call (m := (many : Int)) H5 (by omega) (by
    unfold Bd
    have : (24 : Nat) < 2 ^ 8000 := Nat.lt_of_lt_of_le (show 24 < 2 ^ 5 by decide) (Nat.pow_le_pow_right (by decide) (by decide))
    omega)
  obtain ⟨ot, μ7, e7, a7, b7, H7, u7⟩ := take_call (m := (many : Int)) H6 (by omega) (by
    unfold Bd
    have : (24 : Nat) < 2 ^ 8000 := Nat.lt_of_lt_of_le (show 24 < 2 ^ 5 by decide) (Nat.pow_le_pow_right (by decide) (by decide))
    omega)
  have t7 : μ7[μ3.length]? = some (.lst (ts.map .int)) := by rw [u7.2 _ kt, u6.2 _ kt, h1]
  have get : ∀ {l : List Int} {i : Int}, 0 ≤ i → i < l.length → ∃ v : Int, v ∈ l ∧ atI (l.map D.int) i = some (.int v) := fun {l i} q0 q1 => by
    obtain ⟨x, hx, hm⟩ := atI_mem (l := l.map D.int) q0 (by rw [List.length_map]; exact q1)
    obtain ⟨v, hv, rfl⟩ := List.mem_map.mp hm
    exact ⟨v, hv, hx⟩
  obtain ⟨va, ma, ea⟩ := get (l := ts) a6 (by omega)
  obtain ⟨vo, mo, eo⟩ := get (l := ts) a7 (by omega)
  have len7 : μ.length ≤ μ3.length := by rw [u3.1, u2.1, u1.1]; exact Nat.le_refl _
  have setAt : ∀ {l : List Int} {i : Int} {v : Int}, 0 ≤ i → i < l.length → ∀ {ν : Sto} {ρ : En} {j : Nat}, ν[μ3.length]? = some (.lst (l.map .int)) → ρ[4]? = some (some (.cell μ3.length)) → ρ[j]? = some (some (.val (.int i))) →
      gSubM (mVar 4) (mVar j) (.val (.int v)) ρ ν = some (ρ, ν.set μ3.length (.lst ((l.set i.toNat v).map .int))) := by
    intro l i v q0 q1 ν ρ j hν r4 rj
    rw [gSub_cell (d := .int v) (j := i) (p := i.toNat) rfl (by rw [mVar_ap, r4]; rfl) (by rw [mVar_ap, rj]; rfl) hν (by
      unfold ixN
      rw [if_pos q0, List.length_map, if_pos q1])]
    rw [List.map_set]
  have bset : ∀ {l : List Int} {i : Nat} {v : Int} {n : Nat}, (∀ t ∈ l, t.natAbs < n) → v.natAbs < n → ∀ t ∈ l.set i v, t.natAbs < n := fun hl hv t ht => by
    rcases List.mem_or_eq_of_mem_set ht with q | q
    · exact hl t q
    · rw [q]; exact hv
  have b41 : ∀ t ∈ ts, t.natAbs < 2 ^ 41 := fun t ht => Nat.lt_trans (h3 t ht) (by decide)
  simp only [ev, List.getElem?_cons_zero, List.getElem?_cons_succ, List.set_cons_zero, List.set_cons_succ, decide_eq_true_eq, Bool.not_eq_true', decide_eq_false_iff_not, Nat.reduceAdd, Bool.not_true, Bool.not_false, Option.map_some, Option.map_none, e1, e2, e3, nil0, e4]
  rw [hr _ rfl]
  simp only [ev, List.getElem?_cons_zero, List.getElem?_cons_succ, List.set_cons_zero, List.set_cons_succ, decide_eq_true_eq, Bool.not_eq_true', decide_eq_false_iff_not, Nat.reduceAdd, Bool.not_true, Bool.not_false, Option.map_some, Option.map_none, e5]
  simp only [ev, List.getElem?_cons_zero, List.getElem?_cons_succ, List.set_cons_zero, List.set_cons_succ, decide_eq_true_eq, Bool.not_eq_true', decide_eq_false_iff_not, Nat.reduceAdd, Bool.not_true, Bool.not_false, Option.map_some, Option.map_none, e6, e7]
  have hc : way = 1 ∨ way = 2 ∨ way = 3 ∨ (way ≠ 1 ∧ way ≠ 2 ∧ way ≠ 3) := by omega
  rcases hc with rfl | rfl | rfl | ⟨c1, c2, c3⟩
  · have n2 : ((1 : Int) = 2) = False := by decide
    have n3 : ((1 : Int) = 3) = False := by decide
    have s1 := setAt (l := ts) (v := vo) a6 (by omega) (ν := μ7) (ρ := [some (.cell k), some (.val (.int 1)), some (.val (.int part)), some (.val (.int (many : Int))), some (.cell μ3.length), some (.val (.int top)), s6, some (.val (.int at_)), some (.val (.int ot))]) (j := 7) t7 rfl rfl
    have s2 := setAt (l := ts.set at_.toNat vo) (v := va) a7 (by rw [List.length_set]; omega) (ν := μ7.set μ3.length (.lst ((ts.set at_.toNat vo).map .int))) (ρ := [some (.cell k), some (.val (.int 1)), some (.val (.int part)), some (.val (.int (many : Int))), some (.cell μ3.length), some (.val (.int top)), s6, some (.val (.int at_)), some (.val (.int ot))]) (j := 8) (get_set t7) rfl rfl
    have g := get_set (c := .lst (((ts.set at_.toNat vo).set ot.toNat va).map .int)) (get_set (c := .lst ((ts.set at_.toNat vo).map .int)) t7)
    simp only [ev, List.getElem?_cons_zero, List.getElem?_cons_succ, List.set_cons_zero, List.set_cons_succ, decide_eq_true_eq, Bool.not_eq_true', decide_eq_false_iff_not, Nat.reduceAdd, Bool.not_true, Bool.not_false, Option.map_some, Option.map_none, t7, ea, eo, n2, n3, s1, s2, g, tuple_lst]
    exact ⟨part, _, _, rfl, p1, p2, by rw [List.length_set, List.length_set]; omega, by rw [List.length_set, List.length_set]; omega, bset (n := 2 ^ 41) (bset (n := 2 ^ 41) b41 (b41 vo mo)) (b41 va ma)⟩
  · have n1 : ((2 : Int) = 1) = False := by decide
    have n3 : ((2 : Int) = 3) = False := by decide
    have hat : at_.toNat < ts.length := by omega
    have hpop : lPopAt (ts.map D.int) [.int at_] = some (.int ts[at_.toNat], (ts.eraseIdx at_.toNat).map D.int) := by
      unfold lPopAt
      dsimp only
      rw [if_pos (by omega)]
      have q : PySem.seqIndex? at_ (ts.map D.int).length = some at_.toNat := by
        rw [List.length_map]
        exact seqIx_pos a6 (by omega)
      rw [q]
      dsimp only
      rw [List.getElem?_map, List.getElem?_eq_getElem hat]
      dsimp only [Option.map]
      rw [map_eraseIdx']
    have hins : lIns ((ts.eraseIdx at_.toNat).map D.int) [.int ot, .int ts[at_.toNat]] = some (.non, (((ts.eraseIdx at_.toNat).take ot.toNat ++ [ts[at_.toNat]] ++ (ts.eraseIdx at_.toNat).drop ot.toNat)).map D.int) := by
      unfold lIns
      dsimp only
      rw [if_pos ⟨by rw [List.length_map, List.length_eraseIdx_of_lt hat]; show _ < 2 ^ 24; omega, by omega, by omega⟩]
      simp only [List.map_append, List.map_take, List.map_drop, List.map_cons, List.map_nil]
    have g := get_set (c := .lst ((ts.eraseIdx at_.toNat).map .int)) t7
    have g2 := get_set (c := .lst (((ts.eraseIdx at_.toNat).take ot.toNat ++ [ts[at_.toNat]] ++ (ts.eraseIdx at_.toNat).drop ot.toNat).map .int)) g
    simp only [ev, List.getElem?_cons_zero, List.getElem?_cons_succ, List.set_cons_zero, List.set_cons_succ, decide_eq_true_eq, Bool.not_eq_true', decide_eq_false_iff_not, Nat.reduceAdd, Bool.not_true, Bool.not_false, Option.map_some, Option.map_none, t7, n1, n3, hpop, g, hins, g2, tuple_lst]
    refine ⟨part, _, _, rfl, p1, p2, ?_, ?_, ?_⟩
    · simp only [List.length_append, List.length_singleton]; omega
    · simp only [List.length_append, List.length_singleton, List.length_take, List.length_drop, List.length_eraseIdx_of_lt hat]; omega
    · intro t ht
      simp only [List.mem_append, List.mem_singleton] at ht
      rcases ht with (q | q) | q
      · exact b41 t (List.mem_of_mem_eraseIdx (List.mem_of_mem_take q))
      · rw [q]; exact b41 _ (List.getElem_mem hat)
      · exact b41 t (List.mem_of_mem_eraseIdx (List.mem_of_mem_drop q))
  · have n1 : ((3 : Int) = 1) = False := by decide
    have n3 : ((3 : Int) = 2) = False := by decide
    obtain ⟨dx, μ8, e8, m8, H8, u8⟩ := of_call (ds := [.int 0, .int 0, .int 1, .int (-1), .int 99]) H7 (by decide) (by decide)
    have hdx : ∃ x : Int, dx = .int x ∧ x.natAbs < 100 := by
      simp only [List.mem_cons, List.not_mem_nil, or_false] at m8
      rcases m8 with rfl | rfl | rfl | rfl | rfl
      all_goals exact ⟨_, rfl, by decide⟩
    obtain ⟨x, rfl, bx⟩ := hdx
    have t8 : μ8[μ3.length]? = some (.lst (ts.map .int)) := by rw [u8.2 _ kt, t7]
    have s1 := setAt (l := ts) (v := vo + x) a6 (by omega) (ν := μ8) (ρ := [some (.cell k), some (.val (.int 3)), some (.val (.int part)), some (.val (.int (many : Int))), some (.cell μ3.length), some (.val (.int top)), s6, some (.val (.int at_)), some (.val (.int ot))]) (j := 7) t8 rfl rfl
    have g := get_set (c := .lst ((ts.set at_.toNat (vo + x)).map .int)) t8
    simp only [ev, List.getElem?_cons_zero, List.getElem?_cons_succ, List.set_cons_zero, List.set_cons_succ, decide_eq_true_eq, Bool.not_eq_true', decide_eq_false_iff_not, Nat.reduceAdd, Bool.not_true, Bool.not_false, Option.map_some, Option.map_none, t7, n1, n3, eo, e8, t8, s1, g, tuple_lst]
    refine ⟨part, _, _, rfl, p1, p2, by rw [List.length_set]; omega, by rw [List.length_set]; omega, bset (n := 2 ^ 41) b41 ?_⟩
    have := h3 vo mo
    omega
  · simp only [ev, List.getElem?_cons_zero, List.getElem?_cons_succ, List.set_cons_zero, List.set_cons_succ, decide_eq_true_eq, Bool.not_eq_true', decide_eq_false_iff_not, Nat.reduceAdd, Bool.not_true, Bool.not_false, Option.map_some, Option.map_none, c1, c2, c3, t7, tuple_lst]
    exact ⟨part, _, _, rfl, p1, p2, by omega, by omega, b41⟩
/-- rows of fractions as a tuple -/
def dQ (qs : List Rat) : D := .tup (qs.map mQ)
theorem dQ_ix {qs : List Rat} {i : Int} : dIx (dQ qs) (.int i) = (atI (qs.map mQ) i).map .val := Eq.trans rfl rfl
theorem len_dQ {qs : List Rat} : bLen [dQ qs] = some (.val (.int (qs.length : Int))) := by
  unfold dQ
  rw [len_tup, List.length_map]
theorem at_dQ {qs : List Rat} {i : Int} {n : Nat} (hi : i = (n : Int)) (h : n < qs.length) : atI (qs.map mQ) i = some (mQ qs[n]) := by
  subst hi
  rw [Sz.atI_nat, List.getElem?_map, List.getElem?_eq_getElem h]
  rfl
theorem first_slip_call {qs : List Rat} {n : Nat} {μ : Sto} (hq : ∀ q ∈ qs, BQ n q) (hn : n + n ≤ 100000000) (hl2 : qs.length ≤ 1000) : callF fi_first_slip 1 [] [.val (dQ qs)] [] μ = some (.ok (.val (slipD qs)), μ) := by
  rw [cl_first_slip_1, sem_first_slip]
  unfold c_first_slip
  have hr : iRange2 (mK (.int 1)) (mCallB bLen [mVar 0]) [some (.val (dQ qs)), none] μ = some (.ok (rangeD 1 ((qs.length : Int) - 1).toNat), μ) := by
    refine iRange2_eq (j := (qs.length : Int)) rfl ?_ (inR_of (by decide +kernel)) (inR_of (by omega))
    simp only [ev, List.getElem?_cons_zero, List.getElem?_cons_succ, List.set_cons_zero, List.set_cons_succ, decide_eq_true_eq, Bool.not_eq_true', decide_eq_false_iff_not, Nat.reduceAdd, Bool.not_true, Bool.not_false, Option.map_some, Option.map_none, len_dQ]
  rw [show ((qs.length : Int) - 1).toNat = qs.length - 1 by omega] at hr
  obtain ⟨y, hf⟩ := floop_find (i := 1) (b := c_first_slip_b1) (μ := μ) (ρ := [some (.val (dQ qs)), none]) (pslip qs) (fun d => .val d) (rangeD 1 (qs.length - 1)) (fun d hd => by
    obtain ⟨i, hi, rfl⟩ := rangeD_mem' hd
    unfold c_first_slip_b1
    have a1 := at_dQ (qs := qs) (i := 1 + (i : Int) - 1) (n := i) (by omega) (by omega)
    have a2 := at_dQ (qs := qs) (i := 1 + (i : Int)) (n := i + 1) (by omega) (by omega)
    have bb := below2 (μ := μ) (hq _ (List.getElem_mem (show i < qs.length by omega))) (hq _ (List.getElem_mem (show i + 1 < qs.length by omega))) hn
    have ep : pslip qs (.int (1 + (i : Int))) = !decide (qs[i] < qs[i + 1]) := by
      show (!decide (qs.getD _ 0 < qs.getD _ 0)) = _
      rw [show ((1 : Int) + (i : Nat) - 1).toNat = i by omega, show ((1 : Int) + (i : Nat)).toNat = i + 1 by omega, Sz.getD_at (by omega), Sz.getD_at (by omega)]
    rw [ep]
    simp only [ev, List.getElem?_cons_zero, List.getElem?_cons_succ, List.set_cons_zero, List.set_cons_succ, decide_eq_true_eq, Bool.not_eq_true', decide_eq_false_iff_not, Nat.reduceAdd, Bool.not_true, Bool.not_false, Option.map_some, Option.map_none, dQ_ix, a1, a2, methK_some mtb, bb]) none
  simp only [ev, List.getElem?_cons_zero, List.getElem?_cons_succ, List.set_cons_zero, List.set_cons_succ, decide_eq_true_eq, Bool.not_eq_true', decide_eq_false_iff_not, Nat.reduceAdd, Bool.not_true, Bool.not_false, Option.map_some, Option.map_none, hr]
  rw [show ([some (.val (dQ qs)), none] : En).set 1 none = [some (.val (dQ qs)), none] from rfl] at hf
  rw [hf]
  unfold slipD
  cases (rangeD 1 (qs.length - 1)).find? (pslip qs) with
  | none =>
    simp only [ev, List.getElem?_cons_zero, List.getElem?_cons_succ, List.set_cons_zero, List.set_cons_succ, decide_eq_true_eq, Bool.not_eq_true', decide_eq_false_iff_not, Nat.reduceAdd, Bool.not_true, Bool.not_false, Option.map_some, Option.map_none, List.take_length]
  | some d =>
    simp only [ev, List.getElem?_cons_zero, List.getElem?_cons_succ, List.set_cons_zero, List.set_cons_succ, decide_eq_true_eq, Bool.not_eq_true', decide_eq_false_iff_not, Nat.reduceAdd, Bool.not_true, Bool.not_false, Option.map_some, Option.map_none, List.take_length]
def fracs (part : Int) (ts : List Int) : List Rat := ts.map fun t => Rat.divInt t part
def mk1 (part : Int) : D → D
  | .int t => mQ (Rat.divInt t part)
  | d => d
theorem mk1_map {part : Int} {ts : List Int} : (ts.map D.int).map (mk1 part) = (fracs part ts).map mQ := by
  unfold fracs
  rw [List.map_map, List.map_map]
  rfl
theorem made_call {part : Int} {ts : List Int} {μ : Sto} (h1 : 0 < part) (h2 : part ≤ 10007) (h3 : ts.length ≤ 24) (h4 : ∀ t ∈ ts, t.natAbs < 2 ^ 41) : callF fi_l_made 1 [] [.val (.tup [.int part, .tup (ts.map .int)])] [] μ = some (.ok (.val (dQ (fracs part ts))), μ) := by
  rw [cl_l_made_1, sem_l_made]
  unfold c_l_made
  have hc : mComp (iVal (mOp2 dIx (mVar 0) (mK (.int 1)))) (gNm 1 false) tTrue (mMake mk_Measure 2 [] [mVar 1, mOp2 dIx (mVar 0) (mK (.int 0))] []) [1] [some (.val (.tup [.int part, .tup (ts.map .int)])), none] μ = some (.ok (.fr ((ts.map D.int).map (mk1 part))), μ) := by
    refine comp_map' (ds := ts.map D.int) (mk1 part) (by simp only [ev, List.getElem?_cons_zero, List.getElem?_cons_succ, List.set_cons_zero, List.set_cons_succ, decide_eq_true_eq, Bool.not_eq_true', decide_eq_false_iff_not, Nat.reduceAdd, Bool.not_true, Bool.not_false, Option.map_some, Option.map_none]) (by rw [List.length_map]; omega) fun d hd ν => ?_
    obtain ⟨t, ht, rfl⟩ := List.mem_map.mp hd
    refine ⟨_, rfl, ?_⟩
    have e := (make_q (a := t) (b := part) 41 (by omega) (h4 t ht) (by unfold Bd; omega)).1 ν
    simp only [ev, List.getElem?_cons_zero, List.getElem?_cons_succ, List.set_cons_zero, List.set_cons_succ, decide_eq_true_eq, Bool.not_eq_true', decide_eq_false_iff_not, Nat.reduceAdd, Bool.not_true, Bool.not_false, Option.map_some, Option.map_none, wipeE, e]
    rfl
  simp only [ev, List.getElem?_cons_zero, List.getElem?_cons_succ, List.set_cons_zero, List.set_cons_succ, decide_eq_true_eq, Bool.not_eq_true', decide_eq_false_iff_not, Nat.reduceAdd, Bool.not_true, Bool.not_false, Option.map_some, Option.map_none, hc, mk1_map, tuple_lst, List.take_length]
  rfl
theorem fracs_bq {part : Int} {ts : List Int} (h1 : 0 < part) (h2 : part ≤ 10007) (h4 : ∀ t ∈ ts, t.natAbs < 2 ^ 41) : ∀ q ∈ fracs part ts, BQ 41 q := by
  intro q hq
  obtain ⟨t, ht, rfl⟩ := List.mem_map.mp hq
  exact (make_q (a := t) (b := part) 41 (by omega) (h4 t ht) (by unfold Bd; omega)).2
def oQ : Option Rat → D
  | none => .non
  | some q => mQ q
/-- a ladder -/
def LadD (qs : List Rat) (z : Str) (lo hi : Option Rat) : D := .obj 1 [dQ qs, .str z, oQ lo, oQ hi]
theorem isi_mea {q : Rat} : bIsi nKit nKit subK [mQ q, .cls 0] = some (.val (.bl true)) := rfl
theorem isi_tup {ds : List D} : bIsi nKit nKit subK [.tup ds, .ty "tuple"] = some (.val (.bl true)) := rfl
theorem isi_str {z : Str} : bIsi nKit nKit subK [.str z, .ty "str"] = some (.val (.bl true)) := rfl
theorem are_measures_call {qs : List Rat} {μ : Sto} (h1 : 1 ≤ qs.length) (h2 : qs.length ≤ 24) : callF fi_are_measures 3 [] [.val (dQ qs), .val (.int 1), .val (.int 24)] [] μ = some (.ok (.val (.bl true)), μ) := by
  rw [cl_are_measures_3, sem_are_measures]
  unfold c_are_measures
  have hc : ∀ x : Option S, mComp (iVal (mVar 0)) (gNm 3 false) tTrue (mCallB (bIsi nKit nKit subK) [mVar 3, mK (.cls 0)]) [3] [some (.val (dQ qs)), some (.val (.int 1)), some (.val (.int 24)), x] μ = some (.ok (.fr ((qs.map mQ).map fun d => .bl ((fun _ => true) d))), μ) := by
    intro x
    refine comp_map' (ds := qs.map mQ) _ (by rw [dQ]; simp only [ev, List.getElem?_cons_zero, List.getElem?_cons_succ, List.set_cons_zero, List.set_cons_succ, decide_eq_true_eq, Bool.not_eq_true', decide_eq_false_iff_not, Nat.reduceAdd, Bool.not_true, Bool.not_false, Option.map_some, Option.map_none]) (by rw [List.length_map]; omega) fun d hd ν => ?_
    obtain ⟨q, hq, rfl⟩ := List.mem_map.mp hd
    refine ⟨_, rfl, ?_⟩
    simp only [ev, List.getElem?_cons_zero, List.getElem?_cons_succ, List.set_cons_zero, List.set_cons_succ, decide_eq_true_eq, Bool.not_eq_true', decide_eq_false_iff_not, Nat.reduceAdd, Bool.not_true, Bool.not_false, Option.map_some, Option.map_none, wipeE, isi_mea]
  have c1 : (1 : Int) ≤ (qs.length : Int) := by omega
  have c2 : (qs.length : Int) ≤ 24 := by omega
  have i1 : bIsi nKit nKit subK [dQ qs, .ty "tuple"] = some (.val (.bl true)) := rfl
  have e : ((qs.map mQ).map fun _ => true).all id = true := by simp
  simp only [ev, List.getElem?_cons_zero, List.getElem?_cons_succ, List.set_cons_zero, List.set_cons_succ, decide_eq_true_eq, Bool.not_eq_true', decide_eq_false_iff_not, Nat.reduceAdd, Bool.not_true, Bool.not_false, Option.map_some, Option.map_none, len_dQ, c1, c2, i1, decide_true, hc, all_map, e, List.take_length]
def IsRule (z : Str) : Prop := z = "up" ∨ z = "down" ∨ z = "near"
theorem is_rule_call {z : Str} {μ : Sto} (h : IsRule z) : callF fi_is_rule 1 [] [.val (.str z)] [] μ = some (.ok (.val (.bl true)), μ) := by
  rw [cl_is_rule_1, sem_is_rule]
  unfold c_is_rule
  have e : dInT tTabs (.str z) (.fn 3) = some (.val (.bl true)) := by
    rcases h with rfl | rfl | rfl
    all_goals rfl
  simp only [ev, List.getElem?_cons_zero, List.getElem?_cons_succ, List.set_cons_zero, List.set_cons_succ, decide_eq_true_eq, Bool.not_eq_true', decide_eq_false_iff_not, Nat.reduceAdd, Bool.not_true, Bool.not_false, Option.map_some, Option.map_none, isi_str, e, List.take_length]
theorem mon_n {μ : Sto} : callF fi_is_measure_or_none 1 [] [.val .non] [] μ = some (.ok (.val (.bl true)), μ) := by
  rw [cl_is_measure_or_none_1, sem_is_measure_or_none]
  unfold c_is_measure_or_none
  simp only [ev, List.getElem?_cons_zero, List.getElem?_cons_succ, List.set_cons_zero, List.set_cons_succ, decide_eq_true_eq, Bool.not_eq_true', decide_eq_false_iff_not, Nat.reduceAdd, Bool.not_true, Bool.not_false, Option.map_some, Option.map_none, List.take_length]
theorem mon_q {q : Rat} {μ : Sto} : callF fi_is_measure_or_none 1 [] [.val (mQ q)] [] μ = some (.ok (.val (.bl true)), μ) := by
  rw [cl_is_measure_or_none_1, sem_is_measure_or_none]
  unfold c_is_measure_or_none
  simp only [ev, List.getElem?_cons_zero, List.getElem?_cons_succ, List.set_cons_zero, List.set_cons_succ, decide_eq_true_eq, Bool.not_eq_true', decide_eq_false_iff_not, Nat.reduceAdd, Bool.not_true, Bool.not_false, Option.map_some, Option.map_none, isi_mea, List.take_length]
theorem ladder_init {qs : List Rat} {z : Str} {lo hi : Option Rat} {n : Nat} {μ : Sto} (h1 : 1 ≤ qs.length) (h2 : qs.length ≤ 24) (hz : IsRule z) (hq : ∀ q ∈ qs, BQ n q) (hr : RiseL qs) (hlo : ∀ q, lo = some q → BQ n q) (hhi : ∀ q, hi = some q → BQ n q) (hle : ∀ p q, lo = some p → hi = some q → ¬ q < p) (hn : n + n ≤ 100000000) :
    finM mk_Ladder μ.length (fi_Ladder___init__.sem [.cell μ.length, .val (dQ qs), .val (.str z), .val (oQ lo), .val (oQ hi)] (μ ++ [.ins 1 []])) = some (.ok (.val (LadD qs z lo hi)), μ) := by
  rw [sem_Ladder___init__]
  unfold c_Ladder___init__
  have a1 := fun ν : Sto => are_measures_call (μ := ν) h1 h2
  have a2 := fun ν : Sto => is_rule_call (μ := ν) hz
  have a5 := fun (ν : Sto) => first_slip_call (μ := ν) hq hn (by omega)
  have a6 : slipD qs = .non := by
    unfold slipD
    rw [slip_none.mpr hr]
  rw [a6] at a5
  have fin : finM mk_Ladder μ.length (finF (μ ++ [C.ins 1 []]).length (seqK (some (.nx, [some (.cell μ.length), some (.val (dQ qs)), some (.val (.str z)), some (.val (oQ lo)), some (.val (oQ hi)), some (.val .non)], μ ++ [.ins 1 []])) (sSeq (sFldM nCls "marks" (mVar 0) (mVar 1)) (sSeq (sFldM nCls "rule" (mVar 0) (mVar 2)) (sSeq (sFldM nCls "least" (mVar 0) (mVar 3)) (sSeq (sFldM nCls "most" (mVar 0) (mVar 4)) sNil)))))) = some (.ok (.val (LadD qs z lo hi)), μ) := by
    rw [seqK_nx, sSeq_ap, fld_ap (d := dQ qs) (k := μ.length) (c := 1) (fs := []) (by simp only [ev, List.getElem?_cons_zero, List.getElem?_cons_succ, List.set_cons_zero, List.set_cons_succ, decide_eq_true_eq, Bool.not_eq_true', decide_eq_false_iff_not, Nat.reduceAdd, Bool.not_true, Bool.not_false, Option.map_some, Option.map_none]) (by simp only [ev, List.getElem?_cons_zero, List.getElem?_cons_succ, List.set_cons_zero, List.set_cons_succ, decide_eq_true_eq, Bool.not_eq_true', decide_eq_false_iff_not, Nat.reduceAdd, Bool.not_true, Bool.not_false, Option.map_some, Option.map_none]) get_end (by decide) (by decide), set_end]
    rw [show putD ("marks" : Str) (dQ qs) [] = [(("marks" : Str), dQ qs)] from rfl]
    rw [seqK_nx, sSeq_ap, fld_ap (d := .str z) (k := μ.length) (c := 1) (fs := [("marks", dQ qs)]) (by simp only [ev, List.getElem?_cons_zero, List.getElem?_cons_succ, List.set_cons_zero, List.set_cons_succ, decide_eq_true_eq, Bool.not_eq_true', decide_eq_false_iff_not, Nat.reduceAdd, Bool.not_true, Bool.not_false, Option.map_some, Option.map_none]) (by simp only [ev, List.getElem?_cons_zero, List.getElem?_cons_succ, List.set_cons_zero, List.set_cons_succ, decide_eq_true_eq, Bool.not_eq_true', decide_eq_false_iff_not, Nat.reduceAdd, Bool.not_true, Bool.not_false, Option.map_some, Option.map_none]) get_end (by decide) (by show _ < 1000; simp), set_end]
    rw [show putD ("rule" : Str) (D.str z) [(("marks" : Str), dQ qs)] = [(("marks" : Str), dQ qs), ("rule", .str z)] from rfl]
    rw [seqK_nx, sSeq_ap, fld_ap (d := oQ lo) (k := μ.length) (c := 1) (fs := [("marks", dQ qs), ("rule", .str z)]) (by simp only [ev, List.getElem?_cons_zero, List.getElem?_cons_succ, List.set_cons_zero, List.set_cons_succ, decide_eq_true_eq, Bool.not_eq_true', decide_eq_false_iff_not, Nat.reduceAdd, Bool.not_true, Bool.not_false, Option.map_some, Option.map_none]) (by simp only [ev, List.getElem?_cons_zero, List.getElem?_cons_succ, List.set_cons_zero, List.set_cons_succ, decide_eq_true_eq, Bool.not_eq_true', decide_eq_false_iff_not, Nat.reduceAdd, Bool.not_true, Bool.not_false, Option.map_some, Option.map_none]) get_end (by decide) (by show _ < 1000; simp), set_end]
    rw [show putD ("least" : Str) (oQ lo) [(("marks" : Str), dQ qs), ("rule", .str z)] = [(("marks" : Str), dQ qs), ("rule", .str z), ("least", oQ lo)] from rfl]
    rw [seqK_nx, sSeq_ap, fld_ap (d := oQ hi) (k := μ.length) (c := 1) (fs := [("marks", dQ qs), ("rule", .str z), ("least", oQ lo)]) (by simp only [ev, List.getElem?_cons_zero, List.getElem?_cons_succ, List.set_cons_zero, List.set_cons_succ, decide_eq_true_eq, Bool.not_eq_true', decide_eq_false_iff_not, Nat.reduceAdd, Bool.not_true, Bool.not_false, Option.map_some, Option.map_none]) (by simp only [ev, List.getElem?_cons_zero, List.getElem?_cons_succ, List.set_cons_zero, List.set_cons_succ, decide_eq_true_eq, Bool.not_eq_true', decide_eq_false_iff_not, Nat.reduceAdd, Bool.not_true, Bool.not_false, Option.map_some, Option.map_none]) get_end (by decide) (by show _ < 1000; simp), set_end]
    rw [show putD ("most" : Str) (oQ hi) [(("marks" : Str), dQ qs), ("rule", .str z), ("least", oQ lo)] = [(("marks" : Str), dQ qs), ("rule", .str z), ("least", oQ lo), ("most", oQ hi)] from rfl]
    rw [seqK_nx, sNil_ap, finF_nx, List.length_append, List.take_of_length_le (by rw [List.length_append]; exact Nat.le_refl _)]
    rw [finM_ap (c := 1) (fs := [("marks", dQ qs), ("rule", .str z), ("least", oQ lo), ("most", oQ hi)]) get_end rfl rfl, take_end]
    rfl
  rw [← fin]
  cases lo with
  | none =>
    cases hi with
    | none => simp only [ev, List.getElem?_cons_zero, List.getElem?_cons_succ, List.set_cons_zero, List.set_cons_succ, decide_eq_true_eq, Bool.not_eq_true', decide_eq_false_iff_not, Nat.reduceAdd, Bool.not_true, Bool.not_false, Option.map_some, Option.map_none, oQ, a1, a2, mon_n, mon_q, a5]
    | some q => simp only [ev, List.getElem?_cons_zero, List.getElem?_cons_succ, List.set_cons_zero, List.set_cons_succ, decide_eq_true_eq, Bool.not_eq_true', decide_eq_false_iff_not, Nat.reduceAdd, Bool.not_true, Bool.not_false, Option.map_some, Option.map_none, oQ, a1, a2, mon_n, mon_q, a5]
  | some p =>
    cases hi with
    | none => simp only [ev, List.getElem?_cons_zero, List.getElem?_cons_succ, List.set_cons_zero, List.set_cons_succ, decide_eq_true_eq, Bool.not_eq_true', decide_eq_false_iff_not, Nat.reduceAdd, Bool.not_true, Bool.not_false, Option.map_some, Option.map_none, oQ, a1, a2, mon_n, mon_q, a5]
    | some q =>
      have b := fun ν : Sto => below2 (μ := ν) (hhi q rfl) (hlo p rfl) hn
      have c := hle p q rfl rfl
      simp only [ev, List.getElem?_cons_zero, List.getElem?_cons_succ, List.set_cons_zero, List.set_cons_succ, decide_eq_true_eq, Bool.not_eq_true', decide_eq_false_iff_not, Nat.reduceAdd, Bool.not_true, Bool.not_false, Option.map_some, Option.map_none, oQ, a1, a2, mon_n, mon_q, a5, methK_some mtb, b, c, decide_false]
theorem ladder_call1 {qs : List Rat} {n : Nat} {μ : Sto} (h1 : 1 ≤ qs.length) (h2 : qs.length ≤ 24) (hq : ∀ q ∈ qs, BQ n q) (hr : RiseL qs) (hn : n + n ≤ 100000000) : callM mk_Ladder 1 [] [.val (dQ qs)] [] μ = some (.ok (.val (LadD qs "up" none none)), μ) := by
  rw [show callM mk_Ladder 1 [] [.val (dQ qs)] [] μ = finM mk_Ladder μ.length (fi_Ladder___init__.sem [.cell μ.length, .val (dQ qs), .val (.str "up"), .val .non, .val .non] (μ ++ [.ins 1 []])) from callM_eq rfl rfl rfl]
  exact ladder_init (lo := none) (hi := none) h1 h2 (.inl rfl) hq hr (fun q e => nomatch e) (fun q e => nomatch e) (fun p q e => nomatch e) hn
theorem ladder_call4 {qs : List Rat} {z : Str} {lo hi : Option Rat} {n : Nat} {μ : Sto} (h1 : 1 ≤ qs.length) (h2 : qs.length ≤ 24) (hz : IsRule z) (hq : ∀ q ∈ qs, BQ n q) (hr : RiseL qs) (hlo : ∀ q, lo = some q → BQ n q) (hhi : ∀ q, hi = some q → BQ n q) (hle : ∀ p q, lo = some p → hi = some q → ¬ q < p) (hn : n + n ≤ 100000000) :
    callM mk_Ladder 4 [] [.val (dQ qs), .val (.str z), .val (oQ lo), .val (oQ hi)] [] μ = some (.ok (.val (LadD qs z lo hi)), μ) := by
  rw [show callM mk_Ladder 4 [] [.val (dQ qs), .val (.str z), .val (oQ lo), .val (oQ hi)] [] μ = finM mk_Ladder μ.length (fi_Ladder___init__.sem [.cell μ.length, .val (dQ qs), .val (.str z), .val (oQ lo), .val (oQ hi)] (μ ++ [.ins 1 []])) from callM_eq rfl rfl rfl]
  exact ladder_init h1 h2 hz hq hr hlo hhi hle hn
theorem rise_le {qs : List Rat} (h : RiseL qs) : ∀ (i : Nat) (hi : i < qs.length), qs[0]'(by omega) ≤ qs[i]
  | 0, _ => Rat.le_refl
  | i + 1, hi => by
    have a := rise_le h i (by omega)
    have b := h i hi
    grind
theorem slip_cases {qs : List Rat} : slipD qs = .non ∨ ∃ n : Nat, n < qs.length ∧ slipD qs = .int (n : Int) := by
  unfold slipD
  cases e : (rangeD 1 (qs.length - 1)).find? (pslip qs) with
  | none => exact .inl rfl
  | some d =>
    obtain ⟨i, hi, rfl⟩ := rangeD_mem' (List.mem_of_find?_eq_some e)
    refine .inr ⟨i + 1, by omega, ?_⟩
    show D.int (1 + (i : Int)) = D.int ((i + 1 : Nat) : Int)
    congr 1
    omega
theorem slip_sem {qs : List Rat} {n : Nat} {μ : Sto} (hq : ∀ q ∈ qs, BQ n q) (hn : n + n ≤ 100000000) (hl2 : qs.length ≤ 1000) : fi_slip_of.sem [.val (dQ qs)] μ = some (.ok (.val (slipD qs)), μ) := by
  rw [sem_slip_of]
  unfold c_slip_of
  have e := first_slip_call (μ := μ) hq hn hl2
  simp only [ev, List.getElem?_cons_zero, List.getElem?_cons_succ, List.set_cons_zero, List.set_cons_succ, decide_eq_true_eq, Bool.not_eq_true', decide_eq_false_iff_not, Nat.reduceAdd, Bool.not_true, Bool.not_false, Option.map_some, Option.map_none, e, List.take_length]
def pdue (ts : List Int) : D → Bool
  | .int k => decide (ts.getD k.toNat 0 ≤ ts.getD (k - 1).toNat 0)
  | _ => false
def dueD (ts : List Int) : D := match (rangeD 1 (ts.length - 1)).find? (pdue ts) with
  | some d => d
  | none => .non
theorem due_slip {p : Int} {ts : List Int} (hp : 0 < p) : dueD ts = slipD (fracs p ts) := by
  have hl : (fracs p ts).length = ts.length := List.length_map ..
  have e : (rangeD 1 (ts.length - 1)).find? (pdue ts) = (rangeD 1 ((fracs p ts).length - 1)).find? (pslip (fracs p ts)) := by
    rw [hl]
    have key : ∀ l : List D, (∀ d ∈ l, pdue ts d = pslip (fracs p ts) d) → l.find? (pdue ts) = l.find? (pslip (fracs p ts)) := by
      intro l
      induction l with
      | nil => intro _; rfl
      | cons a l ih =>
        intro h
        rw [List.find?_cons, List.find?_cons, h a List.mem_cons_self, ih fun d hd => h d (List.mem_cons_of_mem _ hd)]
    refine key _ fun d hd => ?_
    obtain ⟨i, hi, rfl⟩ := rangeD_mem' hd
    show decide (ts.getD _ 0 ≤ ts.getD _ 0) = !decide ((fracs p ts).getD _ 0 < (fracs p ts).getD _ 0)
    rw [show ((1 : Int) + (i : Nat) - 1).toNat = i by omega, show ((1 : Int) + (i : Nat)).toNat = i + 1 by omega, Sz.getD_at (l := fracs p ts) (by omega), Sz.getD_at (l := fracs p ts) (by omega), Sz.getD_at (l := ts) (by omega), Sz.getD_at (l := ts) (by omega)]
    have a1 : (fracs p ts)[i]'(by omega) = Rat.divInt (ts[i]'(by omega)) p := List.getElem_map ..
    have a2 : (fracs p ts)[i + 1]'(by omega) = Rat.divInt (ts[i + 1]'(by omega)) p := List.getElem_map ..
    rw [a1, a2]
    have b : Rat.divInt (ts[i]'(by omega)) p < Rat.divInt (ts[i + 1]'(by omega)) p ↔ ts[i]'(by omega) < ts[i + 1]'(by omega) := divInt_lt hp
    by_cases c : ts[i]'(by omega) < ts[i + 1]'(by omega)
    · rw [decide_eq_true (b.mpr c), decide_eq_false (by omega)]
      rfl
    · rw [decide_eq_false (fun z => c (b.mp z)), decide_eq_true (by omega)]
      rfl
  unfold dueD slipD
  rw [e]
  all_goals (cases (rangeD 1 ((fracs p ts).length - 1)).find? (pslip (fracs p ts)) <;> rfl)
theorem due_call {ts : List Int} {μ : Sto} (hl : ts.length ≤ 1000) : callF fi_l_due 1 [] [.val (.tup (ts.map .int))] [] μ = some (.ok (.val (dueD ts)), μ) := by
  rw [cl_l_due_1, sem_l_due]
  unfold c_l_due
  have hr : iRange2 (mK (.int 1)) (mCallB bLen [mVar 0]) [some (.val (.tup (ts.map .int))), none] μ = some (.ok (rangeD 1 ((ts.length : Int) - 1).toNat), μ) := by
    refine iRange2_eq (j := (ts.length : Int)) rfl ?_ (inR_of (by decide +kernel)) (inR_of (by omega))
    simp only [ev, List.getElem?_cons_zero, List.getElem?_cons_succ, List.set_cons_zero, List.set_cons_succ, decide_eq_true_eq, Bool.not_eq_true', decide_eq_false_iff_not, Nat.reduceAdd, Bool.not_true, Bool.not_false, Option.map_some, Option.map_none, List.length_map]
  rw [show ((ts.length : Int) - 1).toNat = ts.length - 1 by omega] at hr
  have at_ : ∀ {i : Int} {n : Nat} (hi : i = (n : Int)) (h : n < ts.length), atI (ts.map D.int) i = some (.int ts[n]) := fun {i n} hi h => by
    subst hi
    rw [Sz.atI_nat, List.getElem?_map, List.getElem?_eq_getElem h]
    rfl
  obtain ⟨y, hf⟩ := floop_find (i := 1) (b := c_l_due_b1) (μ := μ) (ρ := [some (.val (.tup (ts.map .int))), none]) (pdue ts) (fun d => .val d) (rangeD 1 (ts.length - 1)) (fun d hd => by
    obtain ⟨i, hi, rfl⟩ := rangeD_mem' hd
    unfold c_l_due_b1
    have a1 := at_ (i := 1 + (i : Int) - 1) (n := i) (by omega) (by omega)
    have a2 := at_ (i := 1 + (i : Int)) (n := i + 1) (by omega) (by omega)
    have ep : pdue ts (.int (1 + (i : Int))) = decide (ts[i + 1] ≤ ts[i]) := by
      show decide (ts.getD _ 0 ≤ ts.getD _ 0) = _
      rw [show ((1 : Int) + (i : Nat) - 1).toNat = i by omega, show ((1 : Int) + (i : Nat)).toNat = i + 1 by omega, Sz.getD_at (by omega), Sz.getD_at (by omega)]
    rw [ep]
    simp only [ev, List.getElem?_cons_zero, List.getElem?_cons_succ, List.set_cons_zero, List.set_cons_succ, decide_eq_true_eq, Bool.not_eq_true', decide_eq_false_iff_not, Nat.reduceAdd, Bool.not_true, Bool.not_false, Option.map_some, Option.map_none, a1, a2]) none
  simp only [ev, List.getElem?_cons_zero, List.getElem?_cons_succ, List.set_cons_zero, List.set_cons_succ, decide_eq_true_eq, Bool.not_eq_true', decide_eq_false_iff_not, Nat.reduceAdd, Bool.not_true, Bool.not_false, Option.map_some, Option.map_none, hr]
  rw [show ([some (.val (.tup (ts.map .int))), none] : En).set 1 none = [some (.val (.tup (ts.map .int))), none] from rfl] at hf
  rw [hf]
  unfold dueD
  cases (rangeD 1 (ts.length - 1)).find? (pdue ts) with
  | none => simp only [ev, List.getElem?_cons_zero, List.getElem?_cons_succ, List.set_cons_zero, List.set_cons_succ, decide_eq_true_eq, Bool.not_eq_true', decide_eq_false_iff_not, Nat.reduceAdd, Bool.not_true, Bool.not_false, Option.map_some, Option.map_none, List.take_length]
  | some d => simp only [ev, List.getElem?_cons_zero, List.getElem?_cons_succ, List.set_cons_zero, List.set_cons_succ, decide_eq_true_eq, Bool.not_eq_true', decide_eq_false_iff_not, Nat.reduceAdd, Bool.not_true, Bool.not_false, Option.map_some, Option.map_none, List.take_length]
theorem ladder_slip {qs : List Rat} {n m : Nat} {μ : Sto} (h1 : 1 ≤ qs.length) (h2 : qs.length ≤ 24) (hq : ∀ q ∈ qs, BQ n q) (hn : n + n ≤ 100000000) (hs : slipD qs = .int (m : Int)) : callM mk_Ladder 1 [] [.val (dQ qs)] [] μ = some (.error (.own 5 [.int (m : Int)]), μ) := by
  rw [show callM mk_Ladder 1 [] [.val (dQ qs)] [] μ = finM mk_Ladder μ.length (fi_Ladder___init__.sem [.cell μ.length, .val (dQ qs), .val (.str "up"), .val .non, .val .non] (μ ++ [.ins 1 []])) from callM_eq rfl rfl rfl]
  rw [sem_Ladder___init__]
  unfold c_Ladder___init__
  have a1 := fun ν : Sto => are_measures_call (μ := ν) h1 h2
  have a2 := fun ν : Sto => is_rule_call (μ := ν) (.inl rfl)
  have a5 := fun (ν : Sto) => first_slip_call (μ := ν) hq hn (by omega)
  rw [hs] at a5
  simp only [ev, List.getElem?_cons_zero, List.getElem?_cons_succ, List.set_cons_zero, List.set_cons_succ, decide_eq_true_eq, Bool.not_eq_true', decide_eq_false_iff_not, Nat.reduceAdd, Bool.not_true, Bool.not_false, Option.map_some, Option.map_none, a1, a2, mon_n, a5, sRaiseI_ap, rsK_1]
  rw [List.take_take, Nat.min_eq_left (by rw [List.length_append]; omega), List.take_left]
theorem isNon_exc {c : Nat} {fs : List D} : isNon (.exc c fs) = false := Eq.trans rfl rfl
theorem xm5 : tX.exmF 5 5 = some true := rfl
theorem row_at {m : Int} {μ : Sto} : atX (xflOf tXi) "row" 5 [.int m] μ = some (.ok (.val (.int m)), μ) := atX_ap rfl rfl
theorem row_call {qs : List Rat} {n : Nat} {μ : Sto} (h1 : 1 ≤ qs.length) (h2 : qs.length ≤ 24) (hq : ∀ q ∈ qs, BQ n q) (hn : n + n ≤ 100000000) : callF fi_l_row 1 [] [.val (dQ qs)] [] μ = some (.ok (.val (slipD qs)), μ) := by
  rw [cl_l_row_1, sem_l_row]
  unfold c_l_row
  rcases slip_cases (qs := qs) with e | ⟨m, hm, e⟩
  · have hr : RiseL qs := slip_isNon.mp (by rw [e]; rfl)
    have a := fun ν : Sto => ladder_call1 (μ := ν) h1 h2 hq hr hn
    rw [e]
    simp only [ev, List.getElem?_cons_zero, List.getElem?_cons_succ, List.set_cons_zero, List.set_cons_succ, decide_eq_true_eq, Bool.not_eq_true', decide_eq_false_iff_not, Nat.reduceAdd, Bool.not_true, Bool.not_false, Option.map_some, Option.map_none, c_l_row_b1, c_l_row_b2, a, List.take_length]
  · have a := fun ν : Sto => ladder_slip (μ := ν) h1 h2 hq hn e
    rw [e]
    simp only [ev, List.getElem?_cons_zero, List.getElem?_cons_succ, List.set_cons_zero, List.set_cons_succ, decide_eq_true_eq, Bool.not_eq_true', decide_eq_false_iff_not, Nat.reduceAdd, Bool.not_true, Bool.not_false, Option.map_some, Option.map_none, c_l_row_b1, c_l_row_b2, a, xm5, mAttrX_ap, atXK_exc, row_at, isNon_exc, List.take_length]
theorem repr_slip {qs : List Rat} (hl : qs.length ≤ 1000) : ∃ t : Str, bRepr [slipD qs] = some (.val (.str t)) := by
  rcases slip_cases (qs := qs) with e | ⟨m, hm, e⟩
  · rw [e]
    exact ⟨_, repr_non⟩
  · rw [e]
    exact ⟨_, repr_int (k := 10) (by show m < 2 ^ 10; omega) (by decide)⟩
theorem law_step {ns : List Int} {i : Nat} {ρ : En} {μ : Sto} (h : ∃ s1 s2 s3 s4 : Option S, ρ = [some (.val (.scr ns)), s1, s2, s3, s4]) : ∃ ρ1 μ1, gNm 1 false (.val (.int (i : Int))) ρ μ = some (ρ1, μ1) ∧ ∃ ρ2 μ2, c_law_b1 ρ1 μ1 = some (.nx, ρ2, μ2) ∧ ∃ s1 s2 s3 s4 : Option S, ρ2 = [some (.val (.scr ns)), s1, s2, s3, s4] := by
  obtain ⟨s1, s2, s3, s4, rfl⟩ := h
  refine ⟨_, _, rfl, ?_⟩
  unfold c_law_b1
  obtain ⟨h0, h1, e1⟩ := hand_call (μ := μ) (ns := ns) (k := i)
  have H0 : HandB (μ ++ [.lst [.int h0, .int h1, .int 0]]) μ.length 0 := ⟨h0, h1, 0, get_end, by omega, by omega⟩
  obtain ⟨part, ts, μ1, e2, p1, p2, l1, l2, b⟩ := rows_call H0
  have hl : (fracs part ts).length = ts.length := List.length_map ..
  have hq := fracs_bq p1 p2 b
  have e3 := fun ν : Sto => made_call (μ := ν) p1 p2 l2 b
  have e4 := fun ν : Sto => due_call (μ := ν) (ts := ts) (by omega)
  rw [due_slip p1] at e4
  have e5 := fun ν : Sto => slip_sem (μ := ν) hq (by decide) (by omega)
  have e6 := fun ν : Sto => row_call (μ := ν) (by omega) (by omega) hq (by decide)
  obtain ⟨t, rp⟩ := repr_slip (qs := fracs part ts) (by omega)
  simp only [ev, List.getElem?_cons_zero, List.getElem?_cons_succ, List.set_cons_zero, List.set_cons_succ, decide_eq_true_eq, Bool.not_eq_true', decide_eq_false_iff_not, Nat.reduceAdd, Bool.not_true, Bool.not_false, Option.map_some, Option.map_none, e1, e2, e3, e4, e5, e6, cl_slip_of_1, cl_slip_of_0_rows, rp, ne_ss, decide_true]
  exact ⟨_, _, rfl, _, _, _, _, rfl⟩
theorem law_holds (ns : List Int) (hl : ns.length ≤ 63) : fi_law.sem [.val (.scr ns)] [] = some (.ok (.val (.bl true)), []) := by
  rw [sem_law]
  unfold c_law
  have hr := iRange1_eq (a := mCallB bMax [mK (.int 1), mCallB bMin [mK (.int 5), mCallB bLen [mVar 0]]]) (ρ := [some (.val (.scr ns)), none, none, none, none]) (μ := []) (μ1 := []) (j := if (if (ns.length : Int) < 5 then (ns.length : Int) else 5) > 1 then (if (ns.length : Int) < 5 then (ns.length : Int) else 5) else 1) (by simp only [ev, List.getElem?_cons_zero, List.getElem?_cons_succ, List.set_cons_zero, List.set_cons_succ, decide_eq_true_eq, Bool.not_eq_true', decide_eq_false_iff_not, Nat.reduceAdd, Bool.not_true, Bool.not_false, Option.map_some, Option.map_none]) (inR_of (by split <;> split <;> omega))
  obtain ⟨ρ', μ', e, hI⟩ := floop_inv (t := gNm 1 false) (b := c_law_b1) (fun ρ _ => ∃ s1 s2 s3 s4 : Option S, ρ = [some (.val (.scr ns)), s1, s2, s3, s4]) (fun x => ∃ i : Nat, x = .int (i : Int)) (fun x ρ ν hx hI => by
      obtain ⟨i, rfl⟩ := hx
      exact law_step hI) (rangeD 0 (if (if (ns.length : Int) < 5 then (ns.length : Int) else 5) > 1 then (if (ns.length : Int) < 5 then (ns.length : Int) else 5) else 1).toNat) [some (.val (.scr ns)), none, none, none, none] [] (fun d hd => by
      obtain ⟨i, _, rfl⟩ := rangeD_mem' hd
      exact ⟨i, by rw [Int.zero_add]⟩) ⟨_, _, _, _, rfl⟩
  simp only [ev, List.getElem?_cons_zero, List.getElem?_cons_succ, List.set_cons_zero, List.set_cons_succ, decide_eq_true_eq, Bool.not_eq_true', decide_eq_false_iff_not, Nat.reduceAdd, Bool.not_true, Bool.not_false, Option.map_some, Option.map_none, hr, e]
  rfl
end Law

theorem PySem.Challenge.cw_sizeladders_k21_the_first_slip_holds : PySem.Challenge.rw_sizeladders_k21_the_first_slip.Holds := by
  exact Law.whole Law.law_holds
