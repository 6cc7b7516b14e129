import PyProof.Rows.All
import Wide.All
import OpenK.AllK
import Wide.FinOn
import HandS.ForMost
import HandS.Evl
import HandS.SortOrd
import HandS.TupAny
import HandS.TupMul
import HandS.Deep
import KE.LtSeq
import HandS.IsInst
import HandS.TupLe
import HandS.SortRule
import HandS.Zip
import HandS.Text
import HandS.Codes
import KE.KRevSl
import HandS.Words
import HandS.Exc
import HandS.ExcOwn
import HandS.ExcIs
import HandS.TryOnly
import HandS.WordsExc
import PyProof.StrOps2
import KE.GoesMore
import HandS.Style
import PySem.Challenge.RW_lastmove_k61_whole_match_twins

set_option Elab.async false
set_option linter.all false
set_option maxRecDepth 100000
/-! Lm1: data in the place of heaps. A reading of the hand layer (TE, TS ..) is told by the data that stand in the slots (Rho):
ED te rho d: the expression gives the data d. XD ts rho om o: the statement ends as o says. Two heaps stand behind: H, all that is tracked,
and Hm, the part that is never changed any more; what a def changes itself (its own list) is in H alone. -/
namespace LM
open PySem L2 Evl

abbrev D := PySem.PyData
abbrev Rho := List (Option D)

/-! ### heaps -/
structure Gr (H Hm H2 Hm2 : Hp) : Prop where
  ex : Ex H H2
  em : Ex Hm Hm2
  sub : Ex Hm2 H2
  own : ∀ a o, H a = some o → Hm a = none → Hm2 a = none
section
variable {H Hm H1 Hm1 H2 Hm2 : Hp} {p : Addr} {o : HO}
theorem Gr.refl (s : Ex Hm H) : Gr H Hm H Hm := ⟨Ex.refl _, Ex.refl _, s, fun _ _ _ h => h⟩
theorem Gr.trans (a : Gr H Hm H1 Hm1) (b : Gr H1 Hm1 H2 Hm2) : Gr H Hm H2 Hm2 :=
  ⟨a.ex.trans b.ex, a.em.trans b.em, b.sub, fun x o h n => b.own x o (a.ex x o h) (a.own x o h n)⟩
theorem upd_ex (s : Ex Hm H) : Ex (upd Hm p o) (upd H p o) := fun a u h => by
  by_cases e : a = p
  · subst e; rw [upd_same] at h ⊢; exact h
  · rw [upd_ne e] at h ⊢; exact s a u h
/-- a new object for all -/
theorem Gr.new (s : Ex Hm H) (h : H p = none) : Gr H Hm (upd H p o) (upd Hm p o) := by
  have hm : Hm p = none := fresh_back s h
  refine ⟨Ex.new h, Ex.new hm, upd_ex s, fun a u e n => ?_⟩
  have hne : a ≠ p := ne_of_none e h
  rw [upd_ne hne]; exact n
/-- a new object of one's own -/
theorem Gr.priv (s : Ex Hm H) (h : H p = none) : Gr H Hm (upd H p o) Hm :=
  ⟨Ex.new h, Ex.refl _, s.trans (Ex.new h), fun _ _ _ n => n⟩
end

/-! ### data -/
section
variable {K : PySem.W.Frag} {H H' : Hp}
mutual
theorem dp_mono (e : Ex H H') : ∀ (d : D) (v : V), Dp K H v d → Dp K H' v d
  | .none, _, h => by cases h; exact .non
  | .bool b, _, h => by cases h; exact .bl b
  | .int i, _, h => by cases h; exact .int i
  | .str x, _, h => by cases h; exact .str x
  | .list ds, _, h => by
    cases h with
    | lst hs ha => exact .lst (ex_l e hs) (dps_mono e ds _ ha)
  | .tuple ds, _, h => by
    cases h with
    | tup hs ha => exact .tup (ex_t e hs) (dps_mono e ds _ ha)
  | .dict _, _, h => by cases h
theorem dps_mono (e : Ex H H') : ∀ (ds : List D) (vs : List V), DpAll K H vs ds → DpAll K H' vs ds
  | [], _, h => by cases h; exact .nil
  | d :: ds, _, h => by
    cases h with
    | cons h1 h2 => exact .cons (dp_mono e d _ h1) (dps_mono e ds _ h2)
end
end
end LM
namespace L2
open PySem Evl LM
section
variable {K : PySem.W.Frag} {H H' : Hp}
theorem Dp.mono {v : V} {d : D} (h : Dp K H v d) (e : Ex H H') : Dp K H' v d := dp_mono e d v h
theorem DpAll.mono {vs : List V} {ds : List D} (h : DpAll K H vs ds) (e : Ex H H') : DpAll K H' vs ds := dps_mono e ds vs h
theorem DpAll.len : ∀ {vs : List V} {ds : List D}, DpAll K H vs ds → vs.length = ds.length
  | _, _, .nil => rfl
  | _, _, .cons _ t => congrArg (· + 1) (DpAll.len t)
theorem DpAll.get : ∀ {vs : List V} {ds : List D} {i : Nat} {d : D}, DpAll K H vs ds → ds[i]? = some d → ∃ v, vs[i]? = some v ∧ Dp K H v d
  | _, _, _, _, .nil, e => by simp at e
  | _, _, 0, d, .cons h _, e => by
    have e' := Option.some.inj (show some _ = some d from e)
    subst e'; exact ⟨_, rfl, h⟩
  | _, _, i + 1, _, .cons _ t, e => by
    obtain ⟨v, h1, h2⟩ := DpAll.get (i := i) t (by simpa using e)
    exact ⟨v, by simpa using h1, h2⟩
theorem DpAll.get' {vs : List V} {ds : List D} {i : Nat} {v : V} (h : DpAll K H vs ds) (e : vs[i]? = some v) : ∃ d, ds[i]? = some d ∧ Dp K H v d := by
  have hl := h.len
  obtain ⟨hi, _⟩ := List.getElem?_eq_some_iff.mp e
  have hd : ds[i]? = some ds[i] := List.getElem?_eq_getElem (by omega)
  obtain ⟨w, h1, h2⟩ := h.get hd
  rw [e] at h1; cases h1
  exact ⟨_, hd, h2⟩
theorem DpAll.app : ∀ {vs ws : List V} {ds es : List D}, DpAll K H vs ds → DpAll K H ws es → DpAll K H (vs ++ ws) (ds ++ es)
  | _, _, _, _, .nil, h => h
  | _, _, _, _, .cons h t, h2 => .cons h (DpAll.app t h2)
theorem DpAll.snoc {vs : List V} {ds : List D} {v : V} {d : D} (h : DpAll K H vs ds) (hv : Dp K H v d) : DpAll K H (vs ++ [v]) (ds ++ [d]) := h.app (.cons hv .nil)
theorem DpAll.drop : ∀ {vs : List V} {ds : List D} (n : Nat), DpAll K H vs ds → DpAll K H (vs.drop n) (ds.drop n)
  | _, _, 0, h => h
  | _, _, _ + 1, .nil => .nil
  | _, _, n + 1, .cons _ t => DpAll.drop n t
theorem DpAll.take : ∀ {vs : List V} {ds : List D} (n : Nat), DpAll K H vs ds → DpAll K H (vs.take n) (ds.take n)
  | _, _, 0, _ => .nil
  | _, _, _ + 1, .nil => .nil
  | _, _, n + 1, .cons h t => .cons h (DpAll.take n t)
theorem DpAll.of_get : ∀ {vs : List V} {ds : List D}, vs.length = ds.length → (∀ (i : Nat) (v : V) (d : PyData), vs[i]? = some v → ds[i]? = some d → Dp K H v d) → DpAll K H vs ds
  | [], [], _, _ => .nil
  | v :: vs, d :: ds, hl, h => .cons (h 0 v d rfl rfl) (DpAll.of_get (by simpa using hl) fun i v d h1 h2 => h (i + 1) v d (by simpa using h1) (by simpa using h2))
  | [], _ :: _, hl, _ => by simp at hl
  | _ :: _, [], hl, _ => by simp at hl
end
end L2
namespace LM
open PySem L2 Evl
section
variable {K : PySem.W.Frag} {H H' : Hp}
theorem dp_int {v : V} {i : Int} (h : Dp K H v (.int i)) : v = .int i := by cases h; rfl
theorem dp_bool {v : V} {b : Bool} (h : Dp K H v (.bool b)) : v = .bl b := by cases h; rfl
theorem dp_str {v : V} {x : Str} (h : Dp K H v (.str x)) : v = .str x := by cases h; rfl
theorem dp_none {v : V} (h : Dp K H v .none) : v = .non := by cases h; rfl
theorem dp_tup {v : V} {ds : List D} (h : Dp K H v (.tuple ds)) : ∃ a xs, v = .ref a ∧ SqT K H a xs ∧ DpAll K H xs ds := by cases h with | tup hs ha => exact ⟨_, _, rfl, hs, ha⟩
theorem dp_lst {v : V} {ds : List D} (h : Dp K H v (.list ds)) : ∃ a xs, v = .ref a ∧ SqL K H a xs ∧ DpAll K H xs ds := by cases h with | lst hs ha => exact ⟨_, _, rfl, hs, ha⟩
theorem dp_ints : ∀ {vs : List V} {ns : List Int}, DpAll K H vs (ns.map PyData.int) → vs = ns.map V.int
  | _, [], .nil => rfl
  | _, _ :: _, .cons h t => by rw [dp_int h, dp_ints t]; rfl
theorem ints_dp : ∀ ns : List Int, DpAll K H (ns.map V.int) (ns.map PyData.int)
  | [] => .nil
  | n :: ns => .cons (.int n) (ints_dp ns)
theorem dp_bools : ∀ {vs : List V} {bs : List Bool}, DpAll K H vs (bs.map PyData.bool) → vs = bs.map V.bl
  | _, [], .nil => rfl
  | _, _ :: _, .cons h t => by rw [dp_bool h, dp_bools t]; rfl
theorem dp_strs : ∀ {vs : List V} {xs : List Str}, DpAll K H vs (xs.map PyData.str) → vs = xs.map V.str
  | _, [], .nil => rfl
  | _, _ :: _, .cons h t => by rw [dp_str h, dp_strs t]; rfl
end

/-! data without lists stay whatever list changes -/
mutual
def imm : D → Bool
  | .list _ => false
  | .dict _ => false
  | .tuple ds => imms ds
  | .none => true
  | .bool _ => true
  | .int _ => true
  | .str _ => true
def imms : List D → Bool
  | [] => true
  | d :: ds => imm d && imms ds
end
def era (H : Hp) (a : Addr) : Hp := fun b => if b = a then none else H b
theorem era_same {H : Hp} {a : Addr} : era H a a = none := by unfold era; rw [if_pos rfl]
theorem era_ne {H : Hp} {a b : Addr} (h : b ≠ a) : era H a b = H b := by unfold era; rw [if_neg h]
theorem era_ex {H : Hp} {a : Addr} : Ex (era H a) H := fun b o h => by
  by_cases e : b = a
  · subst e; rw [era_same] at h; cases h
  · rw [era_ne e] at h; exact h
theorem sqT_era {K : PySem.W.Frag} {H : Hp} {a p : Addr} {vs xs : List V} (ha : H a = some (.lst vs)) (h : SqT K H p xs) : SqT K (era H a) p xs := by
  rcases h with (h | ⟨o, h⟩) | h
  · have : p ≠ a := fun e => by subst e; rw [h] at ha; cases ha
    exact .inl (.inl (by rw [era_ne this]; exact h))
  · have : p ≠ a := fun e => by subst e; rw [h] at ha; cases ha
    exact .inl (.inr ⟨o, by rw [era_ne this]; exact h⟩)
  · exact .inr h
mutual
theorem dp_era {K : PySem.W.Frag} {H : Hp} {a : Addr} {ws : List V} (ha : H a = some (.lst ws)) : ∀ (d : D) (v : V), imm d = true → Dp K H v d → Dp K (era H a) v d
  | .none, _, _, h => by cases h; exact .non
  | .bool b, _, _, h => by cases h; exact .bl b
  | .int i, _, _, h => by cases h; exact .int i
  | .str x, _, _, h => by cases h; exact .str x
  | .list ds, _, q, _ => by simp [imm] at q
  | .tuple ds, _, q, h => by
    cases h with
    | tup hs hd => exact .tup (sqT_era ha hs) (dps_era ha ds _ (by simpa [imm] using q) hd)
  | .dict _, _, _, h => by cases h
theorem dps_era {K : PySem.W.Frag} {H : Hp} {a : Addr} {ws : List V} (ha : H a = some (.lst ws)) : ∀ (ds : List D) (vs : List V), imms ds = true → DpAll K H vs ds → DpAll K (era H a) vs ds
  | [], _, _, h => by cases h; exact .nil
  | d :: ds, _, q, h => by
    cases h with
    | cons h1 h2 =>
      simp only [imms, Bool.and_eq_true] at q
      exact .cons (dp_era ha d _ q.1 h1) (dps_era ha ds _ q.2 h2)
end

/-! ### slots -/
def Sd (K : PySem.W.Frag) (Hm : Hp) (σ : L2.St) (ρ : Rho) : Prop := ∀ (i : Nat) (d : D), ρ[i]? = some (some d) → ∃ v, σ[i]? = some (some v) ∧ Dp K Hm v d
theorem Sd.mono {K : PySem.W.Frag} {Hm Hm' : Hp} {σ : L2.St} {ρ : Rho} (h : Sd K Hm σ ρ) (e : Ex Hm Hm') : Sd K Hm' σ ρ := fun i d hi =>
  let ⟨v, h1, h2⟩ := h i d hi
  ⟨v, h1, h2.mono e⟩
theorem set_get {α : Type} {l : List α} {i j : Nat} {x y : α} (h : (l.set i x)[j]? = some y) : (j = i ∧ y = x ∧ i < l.length) ∨ (j ≠ i ∧ l[j]? = some y) := by
  by_cases e : i = j
  · subst e
    by_cases hi : i < l.length
    · rw [List.getElem?_set_self hi] at h
      exact .inl ⟨rfl, (Option.some.inj h).symm, hi⟩
    · rw [List.getElem?_eq_none (by simpa using hi)] at h
      cases h
  · rw [List.getElem?_set_ne e] at h
    exact .inr ⟨fun z => e z.symm, h⟩
theorem Sd.set {K : PySem.W.Frag} {Hm : Hp} {σ : L2.St} {ρ : Rho} {v : V} {d : D} (h : Sd K Hm σ ρ) (hl : ρ.length ≤ σ.length) (i : Nat) (hv : Dp K Hm v d) : Sd K Hm (σ.set i (some v)) (ρ.set i (some d)) := fun j e hj => by
  rcases set_get hj with ⟨rfl, e1, hi⟩ | ⟨hne, h1⟩
  · cases e1
    exact ⟨v, List.getElem?_set_self (by omega), hv⟩
  · obtain ⟨w, h2, h3⟩ := h j e h1
    exact ⟨w, by rw [List.getElem?_set_ne (Ne.symm hne)]; exact h2, h3⟩
/-- a slot is forgotten -/
theorem Sd.drop {K : PySem.W.Frag} {Hm : Hp} {σ : L2.St} {ρ : Rho} (h : Sd K Hm σ ρ) (i : Nat) (x : Option V) : Sd K Hm (σ.set i x) (ρ.set i none) := fun j e hj => by
  rcases set_get hj with ⟨rfl, e1, hi⟩ | ⟨hne, h1⟩
  · cases e1
  · obtain ⟨w, h2, h3⟩ := h j e h1
    exact ⟨w, by rw [List.getElem?_set_ne (Ne.symm hne)]; exact h2, h3⟩
theorem Sd.less {K : PySem.W.Frag} {Hm : Hp} {σ : L2.St} {ρ ρ' : Rho} (h : Sd K Hm σ ρ) (hw : ∀ (i : Nat) (d : D), ρ'[i]? = some (some d) → ρ[i]? = some (some d)) : Sd K Hm σ ρ' := fun i d hi => h i d (hw i d hi)
def wipeR (ρ : Rho) : List Nat → Rho
  | [] => ρ
  | v :: vs => (wipeR ρ vs).set v none
theorem Sd.wipe {K : PySem.W.Frag} {Hm : Hp} {σ : L2.St} {ρ : Rho} (h : Sd K Hm σ ρ) : ∀ vs : List Nat, Sd K Hm (wipe σ vs) (wipeR ρ vs)
  | [] => h
  | v :: vs => (Sd.wipe h vs).drop v none
theorem wipeR_length (ρ : Rho) : ∀ vs : List Nat, (wipeR ρ vs).length = ρ.length
  | [] => rfl
  | v :: vs => by unfold wipeR; rw [List.length_set, wipeR_length ρ vs]

/-! ### what an expression gives -/
section
variable (K : PySem.W.Frag)
def ED (te : TE) (ρ : Rho) (d : D) : Prop := ∀ σ H Hm, Ex Hm H → ρ.length ≤ σ.length → Sd K Hm σ ρ → ∀ Q : VK, (∀ v H2 Hm2, Gr H Hm H2 Hm2 → Dp K Hm2 v d → Q v H2) → te σ H Q
def EDs (ta : TA) (ρ : Rho) (ds : List D) : Prop := ∀ σ H Hm, Ex Hm H → ρ.length ≤ σ.length → Sd K Hm σ ρ → ∀ Q : List V → Hp → Prop, (∀ vs H2 Hm2, Gr H Hm H2 Hm2 → DpAll K Hm2 vs ds → Q vs H2) → ta σ H Q
def ET (tt : TT) (ρ : Rho) (b : Bool) : Prop := ∀ σ H Hm, Ex Hm H → ρ.length ≤ σ.length → Sd K Hm σ ρ → ∀ Q : Bool → Hp → Prop, (∀ H2 Hm2, Gr H Hm H2 Hm2 → Q b H2) → tt σ H Q
def EO (to : TO) (ρ : Rho) (o : Option Int) : Prop := ∀ σ H Hm, Ex Hm H → ρ.length ≤ σ.length → Sd K Hm σ ρ → ∀ Q : Option Int → Hp → Prop, (∀ H2 Hm2, Gr H Hm H2 Hm2 → Q o H2) → to σ H Q
/-- a new list of one's own -/
def EL (te : TE) (ρ : Rho) (ds : List D) : Prop := ∀ σ H Hm, Ex Hm H → ρ.length ≤ σ.length → Sd K Hm σ ρ → ∀ Q : VK,
  (∀ p vs H2 Hm2, Gr H Hm H2 Hm2 → H p = none → Hm2 p = none → H2 p = some (.lst vs) → DpAll K Hm2 vs ds → Q (.ref p) H2) → te σ H Q
def RD (r : R2) (a b c : D) : Prop := ∀ H Hm x y, Ex Hm H → Dp K Hm x a → Dp K Hm y b → ∀ Q : VK, (∀ v H2 Hm2, Gr H Hm H2 Hm2 → Dp K Hm2 v c → Q v H2) → r x y H Q
def UD (r : V → Hp → VK → Prop) (a c : D) : Prop := ∀ H Hm x, Ex Hm H → Dp K Hm x a → ∀ Q : VK, (∀ v H2 Hm2, Gr H Hm H2 Hm2 → Dp K Hm2 v c → Q v H2) → r x H Q
def CD (r : List V → Hp → VK → Prop) (ds : List D) (c : D) : Prop := ∀ H Hm xs, Ex Hm H → DpAll K Hm xs ds → ∀ Q : VK, (∀ v H2 Hm2, Gr H Hm H2 Hm2 → Dp K Hm2 v c → Q v H2) → r xs H Q
def CL (r : List V → Hp → VK → Prop) (ds : List D) (cs : List D) : Prop := ∀ H Hm xs, Ex Hm H → DpAll K Hm xs ds → ∀ Q : VK,
  (∀ p vs H2 Hm2, Gr H Hm H2 Hm2 → H p = none → Hm2 p = none → H2 p = some (.lst vs) → DpAll K Hm2 vs cs → Q (.ref p) H2) → r xs H Q
def MD (r : V → List V → Hp → VK → Prop) (a : D) (ds : List D) (c : D) : Prop := ∀ H Hm x xs, Ex Hm H → Dp K Hm x a → DpAll K Hm xs ds → ∀ Q : VK, (∀ v H2 Hm2, Gr H Hm H2 Hm2 → Dp K Hm2 v c → Q v H2) → r x xs H Q
end

section
variable {K : PySem.W.Frag} {ρ : Rho} {ta tb te tx : TE} {t u : TT} {a b c d : D} {ds es cs : List D} {r : R2}
theorem ed_is (h : ED K te ρ a) (e : a = b) : ED K te ρ b := e ▸ h
theorem et_is' {x y : Bool} (h : ET K t ρ x) (e : x = y) : ET K t ρ y := e ▸ h
theorem ed_var {i : Nat} (h : ρ[i]? = some (some d)) : ED K (tVar i) ρ d := fun σ H Hm s _ hs Q q =>
  let ⟨v, h1, h2⟩ := hs i d h
  ⟨v, h1, q v H Hm (Gr.refl s) h2⟩
theorem ed_int {i : Int} : ED K (tC (.int i)) ρ (.int i) := fun _ H Hm s _ _ _ q => q _ H Hm (Gr.refl s) (.int i)
theorem ed_bl {x : Bool} : ED K (tC (.bl x)) ρ (.bool x) := fun _ H Hm s _ _ _ q => q _ H Hm (Gr.refl s) (.bl x)
theorem ed_str {x : Str} : ED K (tC (.str x)) ρ (.str x) := fun _ H Hm s _ _ _ q => q _ H Hm (Gr.refl s) (.str x)
theorem ed_non : ED K (tC .non) ρ .none := fun _ H Hm s _ _ _ q => q _ H Hm (Gr.refl s) .non
theorem ed_op (ha : ED K ta ρ a) (hb : ED K tb ρ b) (hr : RD K r a b c) : ED K (tOp r ta tb) ρ c := fun σ H Hm s l hs Q q =>
  ha σ H Hm s l hs _ fun x H1 Hm1 g1 h1 => hb σ H1 Hm1 g1.sub l (hs.mono g1.em) _ fun y H2 Hm2 g2 h2 =>
    hr H2 Hm2 x y g2.sub (h1.mono g2.em) h2 Q fun v H3 Hm3 g3 h3 => q v H3 Hm3 ((g1.trans g2).trans g3) h3
theorem ed_un {r : V → Hp → VK → Prop} (ha : ED K ta ρ a) (hr : UD K r a c) : ED K (tUn r ta) ρ c := fun σ H Hm s l hs Q q =>
  ha σ H Hm s l hs _ fun x H1 Hm1 g1 h1 => hr H1 Hm1 x g1.sub h1 Q fun v H3 Hm3 g3 h3 => q v H3 Hm3 (g1.trans g3) h3
theorem eds_nil : EDs K tNil ρ [] := fun _ H Hm s _ _ _ q => q [] H Hm (Gr.refl s) .nil
theorem eds_cons {tr : TA} (h : ED K ta ρ d) (hr : EDs K tr ρ ds) : EDs K (tCons ta tr) ρ (d :: ds) := fun σ H Hm s l hs Q q =>
  h σ H Hm s l hs _ fun x H1 Hm1 g1 h1 => hr σ H1 Hm1 g1.sub l (hs.mono g1.em) _ fun xs H2 Hm2 g2 h2 => q _ H2 Hm2 (g1.trans g2) (.cons (h1.mono g2.em) h2)
theorem ed_tup {ta : TA} (h : EDs K ta ρ ds) (hl : ds.length ≤ 1000 := by decide) : ED K (tTup ta) ρ (.tuple ds) := fun σ H Hm s l hs Q q =>
  h σ H Hm s l hs _ fun vs H1 Hm1 g1 h1 => ⟨Nat.le_of_lt (small1000 (by rw [h1.len]; exact hl)), fun p hp =>
    q _ _ _ (g1.trans (Gr.new g1.sub hp)) (.tup (.inl (.inl upd_same)) (h1.mono (Ex.new (fresh_back g1.sub hp))))⟩
theorem el_lst {ta : TA} (h : EDs K ta ρ ds) (hl : ds.length ≤ 1000 := by decide) : EL K (tLst ta) ρ ds := fun σ H Hm s l hs Q q =>
  h σ H Hm s l hs _ fun vs H1 Hm1 g1 h1 => ⟨Nat.le_of_lt (small1000 (by rw [h1.len]; exact hl)), fun p hp =>
    q p vs _ Hm1 (g1.trans (Gr.priv g1.sub hp)) (fresh_back g1.ex hp) (fresh_back g1.sub hp) upd_same h1⟩
/-- a list that is one's own may be shown -/
theorem Gr.show {H Hm H2 Hm2 : Hp} {p : Addr} {vs : List V} (g : Gr H Hm H2 Hm2) (hp : H p = none) (hm : Hm2 p = none) (h2 : H2 p = some (.lst vs)) : Gr H Hm H2 (upd Hm2 p (.lst vs)) := by
  refine ⟨g.ex, g.em.trans (Ex.new hm), fun a o h => ?_, fun a o h n => ?_⟩
  · by_cases e : a = p
    · subst e; rw [upd_same] at h; cases h; exact h2
    · rw [upd_ne e] at h; exact g.sub a o h
  · rw [upd_ne (ne_of_none h hp)]; exact g.own a o h n
theorem ed_el (h : EL K te ρ ds) : ED K te ρ (.list ds) := fun σ H Hm s l hs Q q =>
  h σ H Hm s l hs _ fun p vs H2 Hm2 g hp hm h2 hd => q _ H2 _ (g.show hp hm h2) (.lst (.inl (.inl upd_same)) (hd.mono (Ex.new hm)))
theorem el_is (h : EL K te ρ ds) (e : ds = es) : EL K te ρ es := e ▸ h
theorem ed_cb {r : List V → Hp → VK → Prop} {ta : TA} (h : EDs K ta ρ ds) (hr : CD K r ds c) : ED K (tCB r ta) ρ c := fun σ H Hm s l hs Q q =>
  h σ H Hm s l hs _ fun xs H1 Hm1 g1 h1 => hr H1 Hm1 xs g1.sub h1 Q fun v H2 Hm2 g2 h2 => q v H2 Hm2 (g1.trans g2) h2
theorem el_cb {r : List V → Hp → VK → Prop} {ta : TA} (h : EDs K ta ρ ds) (hr : CL K r ds cs) : EL K (tCB r ta) ρ cs := fun σ H Hm s l hs Q q =>
  h σ H Hm s l hs _ fun xs H1 Hm1 g1 h1 => hr H1 Hm1 xs g1.sub h1 Q fun p vs H2 Hm2 g2 hp hm h2 hd => q p vs H2 Hm2 (g1.trans g2) (fresh_back g1.ex hp) hm h2 hd
/-- a def's promise by data -/
def SpR (K : PySem.W.Frag) (R : List D → D → Prop) : Sp := fun vs H Q _ => ∃ ds r Hm, Ex Hm H ∧ DpAll K Hm vs ds ∧ R ds r ∧ ∀ v H2 Hm2, Gr H Hm H2 Hm2 → Dp K Hm2 v r → Q v H2
theorem ed_call {R : List D → D → Prop} {E : XK} {ta : TA} (h : EDs K ta ρ ds) (hr : R ds d) : ED K (tCall (SpR K R) [] E ta) ρ d := fun σ H Hm s l hs Q q =>
  h σ H Hm s l hs _ fun xs H1 Hm1 g1 h1 => by
    show SpR K R (xs ++ []) H1 Q E
    rw [List.append_nil]
    exact ⟨ds, d, Hm1, g1.sub, h1, hr, fun v H2 Hm2 g2 h2 => q v H2 Hm2 (g1.trans g2) h2⟩
theorem et_test {x : Bool} (h : ED K te ρ (.bool x)) : ET K (tTest te) ρ x := fun σ H Hm s l hs Q q =>
  h σ H Hm s l hs _ fun v H2 Hm2 g h2 => ⟨x, dp_bool h2, q H2 Hm2 g⟩
theorem et_B {x : Bool} (h : ED K te ρ (.bool x)) : ET K (tB te) ρ x := fun σ H Hm s l hs Q q =>
  h σ H Hm s l hs _ fun v H2 Hm2 g h2 => ⟨x, dp_bool h2, q H2 Hm2 g⟩
theorem et_and {x y : Bool} (h1 : ET K t ρ x) (h2 : x = true → ET K u ρ y) : ET K (tAnd t u) ρ (x && y) := fun σ H Hm s l hs Q q => h1 σ H Hm s l hs _ fun H2 Hm2 g => by
  cases x with
  | true => exact h2 rfl σ H2 Hm2 g.sub l (hs.mono g.em) Q fun H3 Hm3 g3 => q H3 Hm3 (g.trans g3)
  | false => exact q H2 Hm2 g
theorem et_or {x y : Bool} (h1 : ET K t ρ x) (h2 : x = false → ET K u ρ y) : ET K (tOr t u) ρ (x || y) := fun σ H Hm s l hs Q q => h1 σ H Hm s l hs _ fun H2 Hm2 g => by
  cases x with
  | false => exact h2 rfl σ H2 Hm2 g.sub l (hs.mono g.em) Q fun H3 Hm3 g3 => q H3 Hm3 (g.trans g3)
  | true => exact q H2 Hm2 g
theorem et_not {x : Bool} (h1 : ET K t ρ x) : ET K (tNot t) ρ (!x) := fun σ H Hm s l hs Q q => h1 σ H Hm s l hs _ fun H2 Hm2 g => q H2 Hm2 g
theorem ed_andV {x y : Bool} (h1 : ED K ta ρ (.bool x)) (h2 : x = true → ED K tb ρ (.bool y)) : ED K (tAndV ta tb) ρ (.bool (x && y)) := fun σ H Hm s l hs Q q => h1 σ H Hm s l hs _ fun v H2 Hm2 g hv => ⟨x, dp_bool hv, by
  cases x with
  | true => exact h2 rfl σ H2 Hm2 g.sub l (hs.mono g.em) Q fun w H3 Hm3 g3 hw => q w H3 Hm3 (g.trans g3) hw
  | false => exact q _ H2 Hm2 g (.bl false)⟩
theorem ed_orV {x y : Bool} (h1 : ED K ta ρ (.bool x)) (h2 : x = false → ED K tb ρ (.bool y)) : ED K (tOrV ta tb) ρ (.bool (x || y)) := fun σ H Hm s l hs Q q => h1 σ H Hm s l hs _ fun v H2 Hm2 g hv => ⟨x, dp_bool hv, by
  cases x with
  | false => exact h2 rfl σ H2 Hm2 g.sub l (hs.mono g.em) Q fun w H3 Hm3 g3 hw => q w H3 Hm3 (g.trans g3) hw
  | true => exact q _ H2 Hm2 g (.bl true)⟩
theorem ed_notV {x : Bool} (h1 : ED K ta ρ (.bool x)) : ED K (tNotV ta) ρ (.bool (!x)) := fun σ H Hm s l hs Q q => h1 σ H Hm s l hs _ fun v H2 Hm2 g hv => ⟨x, dp_bool hv, q _ H2 Hm2 g (.bl _)⟩
theorem ed_if {x : Bool} (h : ET K t ρ x) (h1 : x = true → ED K ta ρ d) (h2 : x = false → ED K tb ρ d) : ED K (tIf t ta tb) ρ d := fun σ H Hm s l hs Q q => h σ H Hm s l hs _ fun H2 Hm2 g => by
  cases x with
  | true => exact h1 rfl σ H2 Hm2 g.sub l (hs.mono g.em) Q fun w H3 Hm3 g3 hw => q w H3 Hm3 (g.trans g3) hw
  | false => exact h2 rfl σ H2 Hm2 g.sub l (hs.mono g.em) Q fun w H3 Hm3 g3 hw => q w H3 Hm3 (g.trans g3) hw
theorem ed_chain {r r' : R2} {tc : TE} {x y : Bool} (ha : ED K ta ρ a) (hb : ED K tb ρ b) (h1 : RD K r a b (.bool x)) (h2 : x = true → ED K tc ρ c ∧ RD K r' b c (.bool y)) : ED K (tChain r r' ta tb tc) ρ (.bool (x && y)) := fun σ H Hm s l hs Q q =>
  ha σ H Hm s l hs _ fun vx H1 Hm1 g1 d1 => hb σ H1 Hm1 g1.sub l (hs.mono g1.em) _ fun vy H2 Hm2 g2 d2 =>
    h1 H2 Hm2 vx vy g2.sub (d1.mono g2.em) d2 _ fun vz H3 Hm3 g3 d3 => ⟨x, dp_bool d3, by
      have g := (g1.trans g2).trans g3
      cases x with
      | true =>
        obtain ⟨hc, hr⟩ := h2 rfl
        show tc σ H3 fun w' H4 => r' vy w' H4 Q
        exact hc σ H3 Hm3 g.sub l (hs.mono g.em) _ fun vw H4 Hm4 g4 d4 => hr H4 Hm4 vy vw g4.sub (d2.mono (g3.em.trans g4.em)) d4 Q fun v H5 Hm5 g5 d5 => q v H5 Hm5 ((g.trans g4).trans g5) d5
      | false =>
        show Q (.bl false) H3
        exact q _ H3 Hm3 g (.bl false)⟩
theorem eo_none : EO K tNoPart ρ none := fun _ H Hm s _ _ _ q => q H Hm (Gr.refl s)
theorem eo_some {i : Int} (h : ED K te ρ (.int i)) : EO K (tPart te) ρ (some i) := fun σ H Hm s l hs Q q => h σ H Hm s l hs _ fun v H2 Hm2 g hv => ⟨i, dp_int hv, q H2 Hm2 g⟩
end

/-! ### operators -/
section
variable {K : PySem.W.Frag}
theorem rd_I0 {g : Int → Int → V} {g' : Int → Int → D} {i j : Int} (hg : ∀ (H : Hp), Dp K H (g i j) (g' i j)) : RD K (rI0 g) (.int i) (.int j) (g' i j) := fun H Hm x y s hx hy Q q => ⟨i, j, dp_int hx, dp_int hy, q _ H Hm (Gr.refl s) (hg _)⟩
theorem rd_add {i j : Int} : RD K (rI0 fun i j => .int (i + j)) (.int i) (.int j) (.int (i + j)) := rd_I0 (g' := fun i j => .int (i + j)) fun _ => .int _
theorem rd_sub {i j : Int} : RD K (rI0 fun i j => .int (i - j)) (.int i) (.int j) (.int (i - j)) := rd_I0 (g' := fun i j => .int (i - j)) fun _ => .int _
theorem rd_I {C : Int → Int → Prop} {g : Int → Int → V} {g' : Int → Int → D} {i j : Int} (hc : C i j) (hg : ∀ (H : Hp), Dp K H (g i j) (g' i j)) : RD K (rI C g) (.int i) (.int j) (g' i j) := fun H Hm x y s hx hy Q q => ⟨i, j, dp_int hx, dp_int hy, hc, q _ H Hm (Gr.refl s) (hg _)⟩
theorem rd_mul {i j : Int} (h : CMul i j) : RD K (rI CMul fun i j => .int (i * j)) (.int i) (.int j) (.int (i * j)) := rd_I (g' := fun i j => .int (i * j)) h fun _ => .int _
theorem rd_mod {i j : Int} (h : 0 < j := by decide) : RD K (rI (fun _ j => 0 < j) fun i j => .int (i % j)) (.int i) (.int j) (.int (i % j)) := rd_I (g' := fun i j => .int (i % j)) h fun _ => .int _
theorem rd_div {i j : Int} (h : CDiv i j) : RD K (rI CDiv fun i j => .int (i / j)) (.int i) (.int j) (.int (i / j)) := rd_I (g' := fun i j => .int (i / j)) h fun _ => .int _
theorem rd_lt {i j : Int} : RD K (rI0 fun i j => .bl (decide (i < j))) (.int i) (.int j) (.bool (decide (i < j))) := rd_I0 (g' := fun i j => .bool (decide (i < j))) fun _ => .bl _
theorem rd_le {i j : Int} : RD K (rI0 fun i j => .bl (decide (i ≤ j))) (.int i) (.int j) (.bool (decide (i ≤ j))) := rd_I0 (g' := fun i j => .bool (decide (i ≤ j))) fun _ => .bl _
theorem rd_gt {i j : Int} : RD K (rI0 fun i j => .bl (decide (i > j))) (.int i) (.int j) (.bool (decide (i > j))) := rd_I0 (g' := fun i j => .bool (decide (i > j))) fun _ => .bl _
theorem rd_ge {i j : Int} : RD K (rI0 fun i j => .bl (decide (i ≥ j))) (.int i) (.int j) (.bool (decide (i ≥ j))) := rd_I0 (g' := fun i j => .bool (decide (i ≥ j))) fun _ => .bl _
theorem rd_eqD {a b : D} (ha : SeqAt.shaped a = true) (hb : SeqAt.shaped b = true) : RD K (rEqD K) a b (.bool (PyData.eqv a b)) := fun H Hm x y s hx hy Q q => ⟨a, b, hx.mono s, hy.mono s, ha, hb, q _ H Hm (Gr.refl s) (.bl _)⟩
theorem rd_neD {a b : D} (ha : SeqAt.shaped a = true) (hb : SeqAt.shaped b = true) : RD K (rNeD K) a b (.bool (!PyData.eqv a b)) := fun H Hm x y s hx hy Q q => ⟨a, b, hx.mono s, hy.mono s, ha, hb, q _ H Hm (Gr.refl s) (.bl _)⟩
theorem ud_neg {i : Int} : UD K (rU fun i => .int (-i)) (.int i) (.int (-i)) := fun H Hm x s hx Q q => ⟨i, dp_int hx, q _ H Hm (Gr.refl s) (.int _)⟩
/-- xs[i], t[i] -/
theorem rd_ixT {ds : List D} {i : Int} {d : D} (h : atI ds i = some d) : RD K (rIxT K) (.tuple ds) (.int i) d := fun H Hm x y s hx hy Q q => by
  obtain ⟨a, xs, rfl, hs, ha⟩ := dp_tup hx
  have hl := ha.len
  unfold atI at h
  obtain ⟨j, h1, h2⟩ := Option.bind_eq_some_iff.mp h
  obtain ⟨v, h3, h4⟩ := ha.get h2
  exact ⟨a, xs, i, v, rfl, dp_int hy, ex_t s hs, by unfold atI; rw [hl, h1]; exact h3, q v H Hm (Gr.refl s) h4⟩
theorem rd_ixL {ds : List D} {i : Int} {d : D} (h : atI ds i = some d) : RD K (rIxL K) (.list ds) (.int i) d := fun H Hm x y s hx hy Q q => by
  obtain ⟨a, xs, rfl, hs, ha⟩ := dp_lst hx
  have hl := ha.len
  unfold atI at h
  obtain ⟨j, h1, h2⟩ := Option.bind_eq_some_iff.mp h
  obtain ⟨v, h3, h4⟩ := ha.get h2
  exact ⟨a, xs, i, v, rfl, dp_int hy, ex_l s hs, by unfold atI; rw [hl, h1]; exact h3, q v H Hm (Gr.refl s) h4⟩
/-- t + u -/
theorem rd_catT {ds es : List D} (hl : ds.length + es.length ≤ 100000) : RD K (rCatA K) (.tuple ds) (.tuple es) (.tuple (ds ++ es)) := fun H Hm x y s hx hy Q q => by
  obtain ⟨a, xs, rfl, hs, ha⟩ := dp_tup hx
  obtain ⟨b, ys, rfl, ht, hb⟩ := dp_tup hy
  have l1 := ha.len
  have l2 := hb.len
  refine ⟨a, b, xs, ys, rfl, rfl, ex_t s hs, ex_t s ht, sz_of (by omega), fun e => ?_, fun e e2 => ?_, fun _ _ p hp => ?_⟩
  · have : ds = [] := by
      cases ds with
      | nil => rfl
      | cons _ _ => rw [e] at l1; simp at l1
    subst this
    exact q _ H Hm (Gr.refl s) (.tup ht hb)
  · have : es = [] := by
      cases es with
      | nil => rfl
      | cons _ _ => rw [e2] at l2; simp at l2
    subst this
    rw [List.append_nil] at q
    exact q _ H Hm (Gr.refl s) (.tup hs ha)
  · have em : Ex Hm (upd Hm p (.tup (xs ++ ys))) := Ex.new (fresh_back s hp)
    exact q _ _ _ (Gr.new s hp) (.tup (.inl (.inl upd_same)) ((ha.mono em).app (hb.mono em)))
/-- len -/
theorem cd_lenT {ds : List D} : CD K (fun xs H Q => ∃ a ys, xs = [.ref a] ∧ (SqL K H a ys ∨ SqT K H a ys) ∧ Q (.int ys.length) H) [.tuple ds] (.int ds.length) := fun H Hm xs s hx Q q => by
  cases hx with
  | cons h t =>
    cases t
    obtain ⟨a, ys, rfl, hs, ha⟩ := dp_tup h
    exact ⟨a, ys, rfl, .inr (ex_t s hs), by rw [ha.len]; exact q _ H Hm (Gr.refl s) (.int _)⟩
end
end LM

set_option Elab.async false
set_option linter.all false
set_option maxRecDepth 100000
/-! Lm2: comprehensions, calls of built-ins, statements, by data. -/
namespace LM
open PySem L2 Evl

/-! ### comprehensions -/
section
variable {K : PySem.W.Frag} {ρ : Rho} {te : TE} {t : TT} {j : Nat}
/-- at turn i of a comprehension whose list stands at Dl -/
def Cp (K : PySem.W.Frag) (H1 Hm1 : Hp) (Dl : Addr) (es : List D) (H' : Hp) : Prop := ∃ Hm' acc, Gr H1 Hm1 H' Hm' ∧ Hm' Dl = none ∧ H' Dl = some (.lst acc) ∧ DpAll K Hm' acc es
theorem cp_turn {H1 Hm1 H' : Hp} {Dl : Addr} {σ : L2.St} {x : V} {d d' : D} {es : List D} {b : Bool} (hD : H1 Dl = none) (s1 : Ex Hm1 H1) (l : ρ.length ≤ σ.length) (hs : Sd K Hm1 σ ρ) (hx : Dp K Hm1 x d) (p : Cp K H1 Hm1 Dl es H') (hz : es.length < 100000)
    (ht : ET K t ((wipeR ρ [j]).set j (some d)) b) (he : b = true → ED K te ((wipeR ρ [j]).set j (some d)) d') :
    t ((wipe σ [j]).set j (some x)) H' fun c H3 => if c = true then te ((wipe σ [j]).set j (some x)) H3 fun y H4 => ∃ acc, H4 Dl = some (.lst acc) ∧ acc.length < sizeLine ∧ Cp K H1 Hm1 Dl (es ++ (if b = true then [d'] else [])) (upd H4 Dl (.lst (acc ++ [y])))
      else Cp K H1 Hm1 Dl (es ++ (if b = true then [d'] else [])) H3 := by
  obtain ⟨Hm', acc, g, n1, n2, n3⟩ := p
  have l2 : ((wipeR ρ [j]).set j (some d)).length ≤ ((wipe σ [j]).set j (some x)).length := by rw [List.length_set, List.length_set, wipeR_length, wipe_length]; exact l
  have l3 : (wipeR ρ [j]).length ≤ (wipe σ [j]).length := by rw [wipeR_length, wipe_length]; exact l
  have S : Sd K Hm' ((wipe σ [j]).set j (some x)) ((wipeR ρ [j]).set j (some d)) := ((hs.mono g.em).wipe [j]).set l3 j (hx.mono g.em)
  refine ht _ H' Hm' g.sub l2 S _ fun H3 Hm3 g3 => ?_
  cases b with
  | true =>
    simp only [if_true]
    refine he rfl _ H3 Hm3 g3.sub l2 (S.mono g3.em) _ fun y H4 Hm4 g4 hy => ?_
    have g5 := g3.trans g4
    have e4 : H4 Dl = some (.lst acc) := g5.ex _ _ n2
    have m4 : Hm4 Dl = none := g5.own _ _ n2 n1
    refine ⟨acc, e4, sz_lt (by rw [n3.len]; exact hz), Hm4, acc ++ [y], ⟨?_, g.em.trans g5.em, ?_, ?_⟩, m4, upd_same, (n3.mono g5.em).snoc hy⟩
    · exact Ex.mut (g.ex.trans g5.ex) hD
    · intro a o h
      have : a ≠ Dl := fun e => by subst e; rw [m4] at h; cases h
      rw [upd_ne this]; exact g4.sub a o h
    · exact (g.trans g5).own
  | false =>
    simp only [Bool.false_eq_true, if_false, List.append_nil]
    exact ⟨Hm3, acc, g.trans g3, g3.own _ _ n2 n1, g3.ex _ _ n2, n3.mono g3.em⟩
def filtmap (p : D → Bool) (f : D → D) : List D → List D
  | [] => []
  | d :: ds => (if p d = true then [f d] else []) ++ filtmap p f ds
theorem filtmap_eq (p : D → Bool) (f : D → D) : ∀ ds, filtmap p f ds = (ds.filter p).map f
  | [] => rfl
  | d :: ds => by
    show (if p d = true then [f d] else []) ++ filtmap p f ds = _
    rw [filtmap_eq p f ds]
    cases h : p d <;> simp [h]
theorem filtmap_app (p : D → Bool) (f : D → D) : ∀ ds es, filtmap p f (ds ++ es) = filtmap p f ds ++ filtmap p f es
  | [], es => rfl
  | d :: ds, es => by
    show (if p d = true then [f d] else []) ++ filtmap p f (ds ++ es) = ((if p d = true then [f d] else []) ++ filtmap p f ds) ++ filtmap p f es
    rw [filtmap_app p f ds es, List.append_assoc]
theorem filtmap_take (p : D → Bool) (f : D → D) {ds : List D} {i : Nat} {d : D} (h : ds[i]? = some d) : filtmap p f (ds.take (i + 1)) = filtmap p f (ds.take i) ++ (if p d = true then [f d] else []) := by
  rw [List.take_add_one, h, filtmap_app]
  show _ ++ ((if p d = true then [f d] else []) ++ []) = _
  rw [List.append_nil]
theorem filtmap_len (p : D → Bool) (f : D → D) : ∀ ds, (filtmap p f ds).length ≤ ds.length
  | [] => Nat.le_refl _
  | d :: ds => by
    have := filtmap_len p f ds
    show ((if p d = true then [f d] else []) ++ filtmap p f ds).length ≤ ds.length + 1
    rw [List.length_append]
    cases p d <;> simp <;> omega
theorem wipe_back {σ : L2.St} {j : Nat} {x : V} : wipe ((wipe σ [j]).set j (some x)) [j] = wipe σ [j] := by
  show (((σ.set j none).set j (some x)).set j none) = σ.set j none
  rw [List.set_set, List.set_set]
theorem el_lcT {tl : TE} {ds : List D} (p : D → Bool) (f : D → D) (hsrc : ED K tl ρ (.tuple ds)) (ht : ∀ d ∈ ds, ET K t ((wipeR ρ [j]).set j (some d)) (p d)) (he : ∀ d ∈ ds, p d = true → ED K te ((wipeR ρ [j]).set j (some d)) (f d)) (hz : ds.length ≤ 50000 := by first | assumption | decide | omega) :
    EL K (tLc (iTup K tl) (gName j) t te [j]) ρ ((ds.filter p).map f) := fun σ H Hm s l hs Q q => by
  refine hsrc σ H Hm s l hs _ fun v H1 Hm1 g1 h1 => ?_
  obtain ⟨a, xs, rfl, hx, ha⟩ := dp_tup h1
  refine ⟨a, rfl, ⟨xs, ex_t g1.sub hx⟩, fun Dl hD => ?_⟩
  have hl := ha.len
  refine lc_tup (xs := xs) (fun i H' => Cp K H1 Hm1 Dl (filtmap p f (ds.take i)) H') ?_ (fun i H' _ c => ?_) (fun i x H' hi c => ?_) (fun H' c => ?_)
  · exact ⟨Hm1, [], Gr.priv g1.sub hD, fresh_back g1.sub hD, upd_same, .nil⟩
  · obtain ⟨_, _, g, _⟩ := c
    exact ex_t g.sub (ex_t g.em hx)
  · obtain ⟨d, hd, hxd⟩ := ha.get' hi
    have hm : d ∈ ds := List.mem_of_getElem? hd
    refine ⟨wipe_back, ?_⟩
    have c' := cp_turn (t := t) (te := te) (j := j) (d' := f d) (b := p d) hD g1.sub l (hs.mono g1.em) hxd c (by have h1 := filtmap_len p f (ds.take i); rw [List.length_take] at h1; omega) (ht d hm) (he d hm)
    rw [← filtmap_take p f hd] at c'
    exact c'
  · rw [hl, List.take_length, filtmap_eq] at c
    obtain ⟨Hm', acc, g, n1, n2, n3⟩ := c
    exact q Dl acc H' Hm' (g1.trans g) (fresh_back g1.ex hD) n1 n2 n3
theorem el_lcL {tl : TE} {ds : List D} (p : D → Bool) (f : D → D) (hsrc : ED K tl ρ (.list ds)) (ht : ∀ d ∈ ds, ET K t ((wipeR ρ [j]).set j (some d)) (p d)) (he : ∀ d ∈ ds, p d = true → ED K te ((wipeR ρ [j]).set j (some d)) (f d)) (hz : ds.length ≤ 50000 := by first | assumption | decide | omega) :
    EL K (tLc (iList K tl) (gName j) t te [j]) ρ ((ds.filter p).map f) := fun σ H Hm s l hs Q q => by
  refine hsrc σ H Hm s l hs _ fun v H1 Hm1 g1 h1 => ?_
  obtain ⟨a, xs, rfl, hx, ha⟩ := dp_lst h1
  refine ⟨a, rfl, ⟨xs, ex_l g1.sub hx⟩, fun Dl hD => ?_⟩
  have hl := ha.len
  refine lc_list (xs := xs) (fun i H' => Cp K H1 Hm1 Dl (filtmap p f (ds.take i)) H') ?_ (fun i H' _ c => ?_) (fun i x H' hi c => ?_) (fun H' c => ?_)
  · exact ⟨Hm1, [], Gr.priv g1.sub hD, fresh_back g1.sub hD, upd_same, .nil⟩
  · obtain ⟨_, _, g, _⟩ := c
    exact ex_l g.sub (ex_l g.em hx)
  · obtain ⟨d, hd, hxd⟩ := ha.get' hi
    have hm : d ∈ ds := List.mem_of_getElem? hd
    refine ⟨wipe_back, ?_⟩
    have c' := cp_turn (t := t) (te := te) (j := j) (d' := f d) (b := p d) hD g1.sub l (hs.mono g1.em) hxd c (by have h1 := filtmap_len p f (ds.take i); rw [List.length_take] at h1; omega) (ht d hm) (he d hm)
    rw [← filtmap_take p f hd] at c'
    exact c'
  · rw [hl, List.take_length, filtmap_eq] at c
    obtain ⟨Hm', acc, g, n1, n2, n3⟩ := c
    exact q Dl acc H' Hm' (g1.trans g) (fresh_back g1.ex hD) n1 n2 n3
/-- the ints lo, lo + 1, .. -/
def rngD (lo : Int) (n : Nat) : List D := (List.range n).map fun (i : Nat) => PySem.PyData.int (lo + (i : Int))
theorem rngD_get {lo : Int} {n i : Nat} (h : i < n) : (rngD lo n)[i]? = some (.int (lo + (i : Int))) := by
  unfold rngD
  rw [List.getElem?_map, List.getElem?_range h]; rfl
theorem rngD_len (lo : Int) (n : Nat) : (rngD lo n).length = n := by unfold rngD; rw [List.length_map, List.length_range]
theorem lcR_core {lo : Int} {n : Nat} (p : D → Bool) (f : D → D) {σ : L2.St} {H1 Hm1 : Hp} (s1 : Ex Hm1 H1) (l : ρ.length ≤ σ.length) (hs : Sd K Hm1 σ ρ) {Q : VK} {Dl : Addr} (hD : H1 Dl = none) (hz : n ≤ 50000)
    (ht : ∀ d ∈ rngD lo n, ET K t ((wipeR ρ [j]).set j (some d)) (p d)) (he : ∀ d ∈ rngD lo n, p d = true → ED K te ((wipeR ρ [j]).set j (some d)) (f d))
    (q : ∀ acc H' Hm', Gr H1 Hm1 H' Hm' → Hm' Dl = none → H' Dl = some (.lst acc) → DpAll K Hm' acc (((rngD lo n).filter p).map f) → Q (.ref Dl) H') :
    ∃ W : Nat → Nat → Hp → Prop, (∃ m, W 0 m (upd H1 Dl (.lst []))) ∧ ∀ i m H, W i m H →
      ((Itr lo n).stop i H ∧ Q (.ref Dl) H) ∨ ((Itr lo n).go i H ∧ ∃ Nx : Hp → Prop, (∀ H', Nx H' → ∃ m', m' < m ∧ W (i + 1) m' H') ∧ ∀ x H', (Itr lo n).yld i H x H' → gName j x (wipe σ [j]) H' fun σ2 H2 => wipe σ2 [j] = wipe σ [j] ∧ t σ2 H2 fun b H3 =>
        if b = true then te σ2 H3 fun y H4 => ∃ acc, H4 Dl = some (.lst acc) ∧ acc.length < sizeLine ∧ Nx (upd H4 Dl (.lst (acc ++ [y]))) else Nx H3) := by
  refine lc_range (lo := lo) (n := n) (Qd := Q (.ref Dl)) (fun i H' => Cp K H1 Hm1 Dl (filtmap p f ((rngD lo n).take i)) H') ?_ (fun i H' hi c => ?_) (fun H' c => ?_)
  · exact ⟨Hm1, [], Gr.priv s1 hD, fresh_back s1 hD, upd_same, .nil⟩
  · have hd := rngD_get (lo := lo) hi
    have hm : PyData.int (lo + (i : Int)) ∈ rngD lo n := List.mem_of_getElem? hd
    refine ⟨wipe_back, ?_⟩
    have c' := cp_turn (t := t) (te := te) (j := j) (d' := f (.int (lo + (i : Int)))) (b := p (.int (lo + (i : Int)))) hD s1 l hs (.int _) c (by have h1 := filtmap_len p f ((rngD lo n).take i); have h2 := rngD_len lo n; rw [List.length_take] at h1; omega) (ht _ hm) (he _ hm)
    rw [← filtmap_take p f hd] at c'
    exact c'
  · have hl := rngD_len lo n
    rw [List.take_of_length_le (by omega), filtmap_eq] at c
    obtain ⟨Hm', acc, g, n1, n2, n3⟩ := c
    exact q acc H' Hm' g n1 n2 n3
theorem el_lcR1 {ta : TA} {n : Int} (p : D → Bool) (f : D → D) (hsrc : EDs K ta ρ [.int n]) (hn : 0 ≤ n ∧ n ≤ 50000) (ht : ∀ d ∈ rngD 0 n.toNat, ET K t ((wipeR ρ [j]).set j (some d)) (p d)) (he : ∀ d ∈ rngD 0 n.toNat, p d = true → ED K te ((wipeR ρ [j]).set j (some d)) (f d)) :
    EL K (tLc (iRng1 ta) (gName j) t te [j]) ρ (((rngD 0 n.toNat).filter p).map f) := fun σ H Hm s l hs Q q => by
  refine hsrc σ H Hm s l hs _ fun vs H1 Hm1 g1 h1 => ?_
  have ev : vs = [.int n] := dp_ints (ns := [n]) h1
  subst ev
  refine ⟨n, rfl, by omega, by omega, fun Dl hD => ?_⟩
  exact lcR_core p f g1.sub l (hs.mono g1.em) hD (by omega) ht he fun acc H' Hm' g n1 n2 n3 => q Dl acc H' Hm' (g1.trans g) (fresh_back g1.ex hD) n1 n2 n3
theorem el_lcR2 {ta : TA} {lo n : Int} (p : D → Bool) (f : D → D) (hsrc : EDs K ta ρ [.int lo, .int n]) (hn : -100000 ≤ lo ∧ lo ≤ 100000 ∧ -100000 ≤ n ∧ n ≤ 100000 ∧ n - lo ≤ 50000) (ht : ∀ d ∈ rngD lo (n - lo).toNat, ET K t ((wipeR ρ [j]).set j (some d)) (p d)) (he : ∀ d ∈ rngD lo (n - lo).toNat, p d = true → ED K te ((wipeR ρ [j]).set j (some d)) (f d)) :
    EL K (tLc (iRng2 ta) (gName j) t te [j]) ρ (((rngD lo (n - lo).toNat).filter p).map f) := fun σ H Hm s l hs Q q => by
  refine hsrc σ H Hm s l hs _ fun vs H1 Hm1 g1 h1 => ?_
  have ev : vs = [.int lo, .int n] := dp_ints (ns := [lo, n]) h1
  subst ev
  refine ⟨lo, n, rfl, by omega, fun Dl hD => ?_⟩
  exact lcR_core p f g1.sub l (hs.mono g1.em) hD (by omega) ht he fun acc H' Hm' g n1 n2 n3 => q Dl acc H' Hm' (g1.trans g) (fresh_back g1.ex hD) n1 n2 n3
theorem et_yes {ρ : Rho} : ET K tYes ρ true := fun _ H Hm s _ _ _ q => q H Hm (Gr.refl s)
theorem filt_all {α : Type} (l : List α) : l.filter (fun _ => true) = l := List.filter_eq_self.mpr fun _ _ => rfl
/-- without a test -/
theorem el_mapT {tl : TE} {ds : List D} (f : D → D) (hsrc : ED K tl ρ (.tuple ds)) (he : ∀ d ∈ ds, ED K te ((wipeR ρ [j]).set j (some d)) (f d)) (hz : ds.length ≤ 50000 := by first | assumption | decide | omega) :
    EL K (tLc (iTup K tl) (gName j) tYes te [j]) ρ (ds.map f) := el_is (el_lcT (fun _ => true) f hsrc (fun _ _ => et_yes) (fun d h _ => he d h) hz) (by rw [filt_all])
theorem el_mapL {tl : TE} {ds : List D} (f : D → D) (hsrc : ED K tl ρ (.list ds)) (he : ∀ d ∈ ds, ED K te ((wipeR ρ [j]).set j (some d)) (f d)) (hz : ds.length ≤ 50000 := by first | assumption | decide | omega) :
    EL K (tLc (iList K tl) (gName j) tYes te [j]) ρ (ds.map f) := el_is (el_lcL (fun _ => true) f hsrc (fun _ _ => et_yes) (fun d h _ => he d h) hz) (by rw [filt_all])
theorem el_mapR1 {ta : TA} {n : Int} (f : D → D) (hsrc : EDs K ta ρ [.int n]) (hn : 0 ≤ n ∧ n ≤ 50000) (he : ∀ d ∈ rngD 0 n.toNat, ED K te ((wipeR ρ [j]).set j (some d)) (f d)) :
    EL K (tLc (iRng1 ta) (gName j) tYes te [j]) ρ ((rngD 0 n.toNat).map f) := el_is (el_lcR1 (fun _ => true) f hsrc hn (fun _ _ => et_yes) (fun d h _ => he d h)) (by rw [filt_all])
end

/-! ### built-ins -/
section
variable {K : PySem.W.Frag}
theorem dps1 {H : Hp} {xs : List V} {d : D} (h : DpAll K H xs [d]) : ∃ v, xs = [v] ∧ Dp K H v d := by
  cases h with | cons h t => cases t; exact ⟨_, rfl, h⟩
theorem dps2 {H : Hp} {xs : List V} {d e : D} (h : DpAll K H xs [d, e]) : ∃ v w, xs = [v, w] ∧ Dp K H v d ∧ Dp K H w e := by
  cases h with | cons h t => cases t with | cons h2 t => cases t; exact ⟨_, _, rfl, h, h2⟩
abbrev rLen (K : PySem.W.Frag) : List V → Hp → VK → Prop := fun xs H Q => ∃ p ys, xs = [.ref p] ∧ (SqL K H p ys ∨ SqT K H p ys) ∧ Q (.int ys.length) H
theorem cd_lenL {ds : List D} : CD K (rLen K) [.list ds] (.int ds.length) := fun H Hm xs s hx Q q => by
  obtain ⟨v, rfl, h⟩ := dps1 hx
  obtain ⟨a, ys, rfl, hs, ha⟩ := dp_lst h
  exact ⟨a, ys, rfl, .inl (ex_l s hs), by rw [ha.len]; exact q _ H Hm (Gr.refl s) (.int _)⟩
theorem cd_any {bs : List Bool} {ds : List D} (e : ds = bs.map PyData.bool) : CD K (rAny K) [.list ds] (.bool (bs.any id)) := fun H Hm xs s hx Q q => by
  subst e
  obtain ⟨v, rfl, h⟩ := dps1 hx
  obtain ⟨a, ys, rfl, hs, ha⟩ := dp_lst h
  have := dp_bools ha
  subst this
  exact ⟨a, bs, rfl, ex_l s hs, q _ H Hm (Gr.refl s) (.bl _)⟩
theorem cd_all {bs : List Bool} {ds : List D} (e : ds = bs.map PyData.bool) : CD K (rAll K) [.list ds] (.bool (bs.all id)) := fun H Hm xs s hx Q q => by
  subst e
  obtain ⟨v, rfl, h⟩ := dps1 hx
  obtain ⟨a, ys, rfl, hs, ha⟩ := dp_lst h
  have := dp_bools ha
  subst this
  exact ⟨a, bs, rfl, ex_l s hs, q _ H Hm (Gr.refl s) (.bl _)⟩
theorem cd_sum {ns : List Int} {ds : List D} (e : ds = ns.map PyData.int) : CD K (rSum K) [.list ds] (.int ns.sum) := fun H Hm xs s hx Q q => by
  subst e
  obtain ⟨v, rfl, h⟩ := dps1 hx
  obtain ⟨a, ys, rfl, hs, ha⟩ := dp_lst h
  have := dp_ints ha
  subst this
  exact ⟨a, ns, rfl, ex_l s hs, q _ H Hm (Gr.refl s) (.int _)⟩
theorem cd_max {ns : List Int} {ds : List D} {m : Int} (e : ds = ns.map PyData.int) (h1 : m ∈ ns) (h2 : ∀ y ∈ ns, y ≤ m) : CD K (rMax K) [.list ds] (.int m) := fun H Hm xs s hx Q q => by
  subst e
  obtain ⟨v, rfl, h⟩ := dps1 hx
  obtain ⟨a, ys, rfl, hs, ha⟩ := dp_lst h
  have := dp_ints ha
  subst this
  refine ⟨a, ns, rfl, ex_l s hs, List.length_pos_of_mem h1, fun k hk hle => ?_⟩
  have e : k = m := Int.le_antisymm (h2 k hk) (hle m h1)
  subst e
  exact q _ H Hm (Gr.refl s) (.int _)
theorem cd_min {ns : List Int} {ds : List D} {m : Int} (e : ds = ns.map PyData.int) (h1 : m ∈ ns) (h2 : ∀ y ∈ ns, m ≤ y) : CD K (rMin K) [.list ds] (.int m) := fun H Hm xs s hx Q q => by
  subst e
  obtain ⟨v, rfl, h⟩ := dps1 hx
  obtain ⟨a, ys, rfl, hs, ha⟩ := dp_lst h
  have := dp_ints ha
  subst this
  refine ⟨a, ns, rfl, ex_l s hs, List.length_pos_of_mem h1, fun k hk hle => ?_⟩
  have e : k = m := Int.le_antisymm (hle m h1) (h2 k hk)
  subst e
  exact q _ H Hm (Gr.refl s) (.int _)
abbrev rMax2' : List V → Hp → VK → Prop := fun xs H Q => ∃ i j, xs = [.int i, .int j] ∧ Q (.int (if j > i then j else i)) H
abbrev rMin2' : List V → Hp → VK → Prop := fun xs H Q => ∃ i j, xs = [.int i, .int j] ∧ Q (.int (if j < i then j else i)) H
theorem cd_max2 {i j : Int} : CD K rMax2' [.int i, .int j] (.int (max i j)) := fun H Hm xs s hx Q q => by
  have := dp_ints (ns := [i, j]) hx
  subst this
  refine ⟨i, j, rfl, ?_⟩
  have e : (if j > i then j else i) = max i j := by split <;> omega
  rw [e]
  exact q _ H Hm (Gr.refl s) (.int _)
theorem cd_min2 {i j : Int} : CD K rMin2' [.int i, .int j] (.int (min i j)) := fun H Hm xs s hx Q q => by
  have := dp_ints (ns := [i, j]) hx
  subst this
  refine ⟨i, j, rfl, ?_⟩
  have e : (if j < i then j else i) = min i j := by split <;> omega
  rw [e]
  exact q _ H Hm (Gr.refl s) (.int _)
abbrev rAbs : List V → Hp → VK → Prop := fun xs H Q => ∃ i, xs = [.int i] ∧ Q (.int (if i < 0 then -i else i)) H
theorem cd_abs {i : Int} : CD K rAbs [.int i] (.int (if i < 0 then -i else i)) := fun H Hm xs s hx Q q => by
  have := dp_ints (ns := [i]) hx
  subst this
  exact ⟨i, rfl, q _ H Hm (Gr.refl s) (.int _)⟩
abbrev rInt1 : List V → Hp → VK → Prop := fun xs H Q => (∃ i, xs = [.int i] ∧ Q (.int i) H) ∨ ∃ k, xs = [.bl k] ∧ Q (.int (if k then 1 else 0)) H
theorem cd_intB {b : Bool} : CD K rInt1 [.bool b] (.int (if b then 1 else 0)) := fun H Hm xs s hx Q q => by
  have := dp_bools (bs := [b]) hx
  subst this
  exact .inr ⟨b, rfl, q _ H Hm (Gr.refl s) (.int _)⟩
abbrev rTupOf (K : PySem.W.Frag) : List V → Hp → VK → Prop := fun xs H Q => ∃ p ys, xs = [.ref p] ∧ ((SqL K H p ys ∧ ∀ l, H l = none → Q (.ref l) (upd H l (.tup ys))) ∨ (SqT K H p ys ∧ Q (.ref p) H))
theorem cd_tupL {ds : List D} : CD K (rTupOf K) [.list ds] (.tuple ds) := fun H Hm xs s hx Q q => by
  obtain ⟨v, rfl, h⟩ := dps1 hx
  obtain ⟨a, ys, rfl, hs, ha⟩ := dp_lst h
  exact ⟨a, ys, rfl, .inl ⟨ex_l s hs, fun p hp => q _ _ _ (Gr.new s hp) (.tup (.inl (.inl upd_same)) (ha.mono (Ex.new (fresh_back s hp))))⟩⟩
theorem cd_tupT {ds : List D} : CD K (rTupOf K) [.tuple ds] (.tuple ds) := fun H Hm xs s hx Q q => by
  obtain ⟨v, rfl, h⟩ := dps1 hx
  obtain ⟨a, ys, rfl, hs, ha⟩ := dp_tup h
  exact ⟨a, ys, rfl, .inr ⟨ex_t s hs, q _ H Hm (Gr.refl s) (.tup hs ha)⟩⟩
abbrev rLstOf (K : PySem.W.Frag) : List V → Hp → VK → Prop := fun xs H Q => ∃ p ys, xs = [.ref p] ∧ (SqL K H p ys ∨ SqT K H p ys) ∧ ∀ l, H l = none → Q (.ref l) (upd H l (.lst ys))
theorem cl_lstT {ds : List D} : CL K (rLstOf K) [.tuple ds] ds := fun H Hm xs s hx Q q => by
  obtain ⟨v, rfl, h⟩ := dps1 hx
  obtain ⟨a, ys, rfl, hs, ha⟩ := dp_tup h
  exact ⟨a, ys, rfl, .inr (ex_t s hs), fun p hp => q p ys _ Hm (Gr.priv s hp) hp (fresh_back s hp) upd_same ha⟩
theorem cl_lstL {ds : List D} : CL K (rLstOf K) [.list ds] ds := fun H Hm xs s hx Q q => by
  obtain ⟨v, rfl, h⟩ := dps1 hx
  obtain ⟨a, ys, rfl, hs, ha⟩ := dp_lst h
  exact ⟨a, ys, rfl, .inl (ex_l s hs), fun p hp => q p ys _ Hm (Gr.priv s hp) hp (fresh_back s hp) upd_same ha⟩
/-- xs + ys, xs * k of lists -/
theorem Gr.newL {H Hm : Hp} {p : Addr} {vs : List V} (s : Ex Hm H) (hp : H p = none) : Gr H Hm (upd H p (.lst vs)) Hm := Gr.priv s hp
def RL (K : PySem.W.Frag) (r : R2) (a b : D) (cs : List D) : Prop := ∀ H Hm x y, Ex Hm H → Dp K Hm x a → Dp K Hm y b → ∀ Q : VK,
  (∀ p vs H2 Hm2, Gr H Hm H2 Hm2 → H p = none → Hm2 p = none → H2 p = some (.lst vs) → DpAll K Hm2 vs cs → Q (.ref p) H2) → r x y H Q
theorem el_op {r : R2} {ta tb : TE} {ρ : Rho} {a b : D} {cs : List D} (ha : ED K ta ρ a) (hb : ED K tb ρ b) (hr : RL K r a b cs) : EL K (tOp r ta tb) ρ cs := fun σ H Hm s l hs Q q =>
  ha σ H Hm s l hs _ fun x H1 Hm1 g1 h1 => hb σ H1 Hm1 g1.sub l (hs.mono g1.em) _ fun y H2 Hm2 g2 h2 =>
    hr H2 Hm2 x y g2.sub (h1.mono g2.em) h2 Q fun p vs H3 Hm3 g3 hp hm h3 hd => q p vs H3 Hm3 ((g1.trans g2).trans g3) (fresh_back (g1.ex.trans g2.ex) hp) hm h3 hd

/-! ### isinstance with a built-in class -/
def tyD : D → String
  | .none => "NoneType"
  | .bool _ => "bool"
  | .int _ => "int"
  | .str _ => "str"
  | .list _ => "list"
  | .tuple _ => "tuple"
  | .dict _ => "dict"
theorem tyx_of {H : Hp} {v : V} : ∀ {d : D}, Dp K H v d → TyX K H v (.type (tyD d))
  | .none, h => by cases h; exact .base .non
  | .bool b, h => by cases h; exact .base (.bl b)
  | .int i, h => by cases h; exact .base (.int i)
  | .str x, h => by cases h; exact .base (.str x)
  | .list ds, h => by
    cases h with
    | lst hs _ =>
      rcases hs with (h | ⟨o, h⟩) | ⟨o, its, n, h1, h2, _⟩
      · exact .base (.lst h)
      · exact .base (.frz h)
      · exact .kList h1 h2
  | .tuple ds, h => by
    cases h with
    | tup hs _ =>
      rcases hs with (h | ⟨o, h⟩) | ⟨o, its, n, h1, h2, _⟩
      · exact .base (.tup h)
      · exact .fTuple h
      · exact .kTuple h1 h2
  | .dict _, h => by cases h
def isTy (d : D) (T : String) : Bool := (kitB (tyD d) T).getD false
theorem ed_isi {ρ : Rho} {te : TE} {d : D} {T : String} {b : Bool} (h : ED K te ρ d) (hb : kitB (tyD d) T = some b) : ED K (tCB (rIsi K) (tCons te (tCons (tC (.ty T)) tNil))) ρ (.bool b) := fun σ H Hm s l hs Q q =>
  h σ H Hm s l hs _ fun v H1 Hm1 g1 h1 => ⟨v, .ty T, .type (tyD d), .type T, b, rfl, .ty T, tyx_of (h1.mono g1.sub), kit_ty hb, q _ H1 Hm1 g1 (.bl b)⟩
theorem kb_tuple : ∀ d : D, kitB (tyD d) "tuple" = some (match d with | .tuple _ => true | _ => false)
  | .none => (by decide +kernel : kitB "NoneType" "tuple" = some false)
  | .bool _ => (by decide +kernel : kitB "bool" "tuple" = some false)
  | .int _ => (by decide +kernel : kitB "int" "tuple" = some false)
  | .str _ => (by decide +kernel : kitB "str" "tuple" = some false)
  | .list _ => (by decide +kernel : kitB "list" "tuple" = some false)
  | .tuple _ => (by decide +kernel : kitB "tuple" "tuple" = some true)
  | .dict _ => (by decide +kernel : kitB "dict" "tuple" = some false)
theorem kb_int : ∀ d : D, kitB (tyD d) "int" = some (match d with | .bool _ => true | .int _ => true | _ => false)
  | .none => (by decide +kernel : kitB "NoneType" "int" = some false)
  | .bool _ => (by decide +kernel : kitB "bool" "int" = some true)
  | .int _ => (by decide +kernel : kitB "int" "int" = some true)
  | .str _ => (by decide +kernel : kitB "str" "int" = some false)
  | .list _ => (by decide +kernel : kitB "list" "int" = some false)
  | .tuple _ => (by decide +kernel : kitB "tuple" "int" = some false)
  | .dict _ => (by decide +kernel : kitB "dict" "int" = some false)
theorem kb_bool : ∀ d : D, kitB (tyD d) "bool" = some (match d with | .bool _ => true | _ => false)
  | .none => (by decide +kernel : kitB "NoneType" "bool" = some false)
  | .bool _ => (by decide +kernel : kitB "bool" "bool" = some true)
  | .int _ => (by decide +kernel : kitB "int" "bool" = some false)
  | .str _ => (by decide +kernel : kitB "str" "bool" = some false)
  | .list _ => (by decide +kernel : kitB "list" "bool" = some false)
  | .tuple _ => (by decide +kernel : kitB "tuple" "bool" = some false)
  | .dict _ => (by decide +kernel : kitB "dict" "bool" = some false)
theorem kb_str : ∀ d : D, kitB (tyD d) "str" = some (match d with | .str _ => true | _ => false)
  | .none => (by decide +kernel : kitB "NoneType" "str" = some false)
  | .bool _ => (by decide +kernel : kitB "bool" "str" = some false)
  | .int _ => (by decide +kernel : kitB "int" "str" = some false)
  | .str _ => (by decide +kernel : kitB "str" "str" = some true)
  | .list _ => (by decide +kernel : kitB "list" "str" = some false)
  | .tuple _ => (by decide +kernel : kitB "tuple" "str" = some false)
  | .dict _ => (by decide +kernel : kitB "dict" "str" = some false)
end

/-! ### slices -/
section
variable {K : PySem.W.Frag} {ρ : Rho} {te : TE} {tl th : TO} {lo hi : Option Int} {ds : List D}
def cut {α : Type} (xs : List α) (lo hi : Option Int) : List α := (xs.drop (HT.sIx xs.length 0 lo)).take (HT.sIx xs.length xs.length hi - HT.sIx xs.length 0 lo)
theorem cut_dp {H : Hp} {vs : List V} (h : DpAll K H vs ds) : DpAll K H (cutV vs lo hi) (cut ds lo hi) := by
  unfold cutV cut
  rw [h.len]
  exact (h.drop _).take _
theorem ed_slT (h : ED K te ρ (.tuple ds)) (h1 : EO K tl ρ lo) (h2 : EO K th ρ hi) : ED K (tSl (rSlA K) te tl th) ρ (.tuple (cut ds lo hi)) := fun σ H Hm s l hs Q q =>
  h σ H Hm s l hs _ fun v H1 Hm1 g1 d1 => h1 σ H1 Hm1 g1.sub l (hs.mono g1.em) _ fun H2 Hm2 g2 => h2 σ H2 Hm2 g2.sub l (hs.mono (g1.em.trans g2.em)) _ fun H3 Hm3 g3 => by
    obtain ⟨a, xs, rfl, hx, ha⟩ := dp_tup d1
    have g23 := g2.trans g3
    refine ⟨a, xs, rfl, ex_t g3.sub (ex_t g23.em hx), fun e => ?_, fun _ p hp => ?_⟩
    · have e' : cut ds lo hi = ds := by
        unfold cut
        rw [← ha.len]
        rw [e.1, e.2, ha.len, List.drop_zero, Nat.sub_zero, List.take_length]
      rw [e'] at q
      exact q _ H3 Hm3 (g1.trans g23) (.tup (ex_t g23.em hx) (ha.mono g23.em))
    · exact q _ _ _ ((g1.trans g23).trans (Gr.new g3.sub hp)) (.tup (.inl (.inl upd_same)) (((cut_dp ha).mono g23.em).mono (Ex.new (fresh_back g3.sub hp))))
theorem el_slL (h : ED K te ρ (.list ds)) (h1 : EO K tl ρ lo) (h2 : EO K th ρ hi) : EL K (tSl (rSlL K) te tl th) ρ (cut ds lo hi) := fun σ H Hm s l hs Q q =>
  h σ H Hm s l hs _ fun v H1 Hm1 g1 d1 => h1 σ H1 Hm1 g1.sub l (hs.mono g1.em) _ fun H2 Hm2 g2 => h2 σ H2 Hm2 g2.sub l (hs.mono (g1.em.trans g2.em)) _ fun H3 Hm3 g3 => by
    obtain ⟨a, xs, rfl, hx, ha⟩ := dp_lst d1
    have g23 := g2.trans g3
    exact ⟨a, xs, rfl, ex_l g3.sub (ex_l g23.em hx), fun p hp => q p _ _ Hm3 ((g1.trans g23).trans (Gr.priv g3.sub hp)) (fresh_back (g1.ex.trans g23.ex) hp) (fresh_back g3.sub hp) upd_same ((cut_dp ha).mono g23.em)⟩
end

/-! ### statements -/
/-- the def's own list: its slot, what it holds -/
abbrev Om := Option (Nat × List D)
def OwnOk (K : PySem.W.Frag) (H0 H Hm : Hp) (σ : L2.St) : Om → Prop
  | none => True
  | some (i, ds) => ∃ a vs, σ[i]? = some (some (.ref a)) ∧ H0 a = none ∧ Hm a = none ∧ H a = some (.lst vs) ∧ DpAll K Hm vs ds
structure Stt (K : PySem.W.Frag) (H0 Hm0 H Hm : Hp) (σ : L2.St) (ρ : Rho) (ω : Om) : Prop where
  gr : Gr H0 Hm0 H Hm
  len : ρ.length ≤ σ.length
  sd : Sd K Hm σ ρ
  own : OwnOk K H0 H Hm σ ω
inductive Out where
  | nx (ρ : Rho) (ω : Om)
  | rt (d : D)
  | bk (ρ : Rho) (ω : Om)
def Fn (K : PySem.W.Frag) (H0 Hm0 Hb : Hp) (E : Ends) : Out → Prop
  | .nx ρ ω => ∀ σ H Hm, Ex Hb Hm → Stt K H0 Hm0 H Hm σ ρ ω → E.nx σ H
  | .rt d => ∀ v H Hm, Gr H0 Hm0 H Hm → Dp K Hm v d → E.rt v H
  | .bk ρ ω => ∀ σ H Hm, Ex Hb Hm → Stt K H0 Hm0 H Hm σ ρ ω → E.bk σ H
def XD (K : PySem.W.Frag) (ts : TS) (ρ : Rho) (ω : Om) (o : Out) : Prop := ∀ H0 Hm0 E σ H Hm, Stt K H0 Hm0 H Hm σ ρ ω → Fn K H0 Hm0 Hm E o → ts E σ H
/-- with the own list to be read -/
def vw (ρ : Rho) : Om → Rho
  | none => ρ
  | some (i, ds) => ρ.set i (some (.list ds))
section
variable {K : PySem.W.Frag} {ρ ρ' : Rho} {ω ω' : Om} {o : Out} {t u w : TS} {te : TE} {tt : TT} {d : D} {ds : List D} {i j : Nat}
theorem Fn.mono {H0 Hm0 Hb Hb' : Hp} {E : Ends} {o : Out} (h : Fn K H0 Hm0 Hb E o) (e : Ex Hb Hb') : Fn K H0 Hm0 Hb' E o := by
  cases o with
  | nx ρ ω => exact fun σ H Hm x s => h σ H Hm (e.trans x) s
  | rt d => exact h
  | bk ρ ω => exact fun σ H Hm x s => h σ H Hm (e.trans x) s
theorem xd_out {o' : Out} (h : XD K t ρ ω o) (e : o = o') : XD K t ρ ω o' := e ▸ h
theorem xd_seq (h : XD K t ρ ω (.nx ρ' ω')) (k : XD K u ρ' ω' o) : XD K (tSeq t u) ρ ω o := fun H0 Hm0 E σ H Hm S f =>
  h H0 Hm0 _ σ H Hm S fun σ' H' Hm' x S' => k H0 Hm0 E σ' H' Hm' S' (f.mono x)
theorem xd_seq_rt (h : XD K t ρ ω (.rt d)) : XD K (tSeq t u) ρ ω (.rt d) := fun H0 Hm0 E σ H Hm S f => h H0 Hm0 _ σ H Hm S f
theorem xd_seq_bk (h : XD K t ρ ω (.bk ρ' ω')) : XD K (tSeq t u) ρ ω (.bk ρ' ω') := fun H0 Hm0 E σ H Hm S f => h H0 Hm0 _ σ H Hm S f
theorem xd_next : XD K tNext ρ ω (.nx ρ ω) := fun H0 Hm0 E σ H Hm S f => f σ H Hm (Ex.refl _) S
theorem xd_break : XD K tBreak ρ ω (.bk ρ ω) := fun H0 Hm0 E σ H Hm S f => f σ H Hm (Ex.refl _) S
/-- slots forgotten -/
theorem Stt.less {H0 Hm0 H Hm : Hp} {σ : L2.St} (S : Stt K H0 Hm0 H Hm σ ρ ω) (hl : ρ'.length = ρ.length) (hw : ∀ (i : Nat) (d : D), ρ'[i]? = some (some d) → ρ[i]? = some (some d)) : Stt K H0 Hm0 H Hm σ ρ' ω :=
  ⟨S.gr, by rw [hl]; exact S.len, S.sd.less hw, S.own⟩
theorem OwnOk.grow {H0 H Hm H2 Hm2 : Hp} {σ : L2.St} (h : OwnOk K H0 H Hm σ ω) (g : Gr H Hm H2 Hm2) : OwnOk K H0 H2 Hm2 σ ω := by
  cases ω with
  | none => trivial
  | some q =>
    obtain ⟨a, vs, h1, h2, h3, h4, h5⟩ := h
    exact ⟨a, vs, h1, h2, g.own _ _ h4 h3, g.ex _ _ h4, h5.mono g.em⟩
theorem Stt.grow {H0 Hm0 H Hm H2 Hm2 : Hp} {σ : L2.St} (S : Stt K H0 Hm0 H Hm σ ρ ω) (g : Gr H Hm H2 Hm2) : Stt K H0 Hm0 H2 Hm2 σ ρ ω :=
  ⟨S.gr.trans g, S.len, S.sd.mono g.em, S.own.grow g⟩
/-- what is seen with the own list shown -/
theorem Stt.view {H0 Hm0 H Hm : Hp} {σ : L2.St} (S : Stt K H0 Hm0 H Hm σ ρ ω) : ∃ Hv, Ex Hv H ∧ Ex Hm Hv ∧ Sd K Hv σ (vw ρ ω) ∧ (vw ρ ω).length ≤ σ.length ∧ Gr H0 Hm0 H Hv ∧
    match ω with
    | none => Hv = Hm
    | some (i, ds) => ∃ a vs, σ[i]? = some (some (.ref a)) ∧ H0 a = none ∧ Hm a = none ∧ H a = some (.lst vs) ∧ DpAll K Hm vs ds ∧ Hv = upd Hm a (.lst vs) := by
  cases ω with
  | none => exact ⟨Hm, S.gr.sub, Ex.refl _, S.sd, S.len, S.gr, rfl⟩
  | some q =>
    obtain ⟨i, ds⟩ := q
    obtain ⟨a, vs, h1, h2, h3, h4, h5⟩ := S.own
    have em : Ex Hm (upd Hm a (.lst vs)) := Ex.new h3
    have sub : Ex (upd Hm a (.lst vs)) H := fun b o e => by
      by_cases z : b = a
      · subst z; rw [upd_same] at e; cases e; exact h4
      · rw [upd_ne z] at e; exact S.gr.sub b o e
    refine ⟨upd Hm a (.lst vs), sub, em, fun k e hk => ?_, by show (ρ.set i _).length ≤ _; rw [List.length_set]; exact S.len, ⟨S.gr.ex, S.gr.em.trans em, sub, fun b o e n => ?_⟩, a, vs, h1, h2, h3, h4, h5, rfl⟩
    · rcases set_get hk with ⟨rfl, e1, _⟩ | ⟨_, h⟩
      · cases e1
        exact ⟨_, h1, .lst (.inl (.inl upd_same)) (h5.mono em)⟩
      · obtain ⟨v, q1, q2⟩ := S.sd k e h
        exact ⟨v, q1, q2.mono em⟩
    · rw [upd_ne (ne_of_none e h2)]
      exact S.gr.own b o e n
/-- behind an expression that was read with the own list shown: hidden again -/
theorem Stt.hide {H0 Hm0 H Hm Hv H2 Hv2 : Hp} {σ : L2.St} (S : Stt K H0 Hm0 H Hm σ ρ ω) (hv : Ex Hm Hv) (hz : match ω with
    | none => Hv = Hm
    | some (i, ds) => ∃ a vs, σ[i]? = some (some (.ref a)) ∧ H0 a = none ∧ Hm a = none ∧ H a = some (.lst vs) ∧ DpAll K Hm vs ds ∧ Hv = upd Hm a (.lst vs)) (g : Gr H Hv H2 Hv2) :
    ∃ Hm2, Ex Hm Hm2 ∧ Stt K H0 Hm0 H2 Hm2 σ ρ ω ∧ ∀ v d, (ω = none ∨ imm d = true) → Dp K Hv2 v d → Dp K Hm2 v d := by
  cases ω with
  | none =>
    have hz : Hv = Hm := hz
    subst hz
    exact ⟨Hv2, g.em, S.grow g, fun _ _ _ h => h⟩
  | some q =>
    obtain ⟨i, ds⟩ := q
    obtain ⟨a, vs, h1, h2, h3, h4, h5, e⟩ := hz
    subst e
    have e2 : Hv2 a = some (.lst vs) := g.em _ _ upd_same
    have em : Ex Hm (era Hv2 a) := fun b o e => by
      have hne : b ≠ a := fun z => by subst z; rw [h3] at e; cases e
      rw [era_ne hne]
      exact g.em b o (by rw [upd_ne hne]; exact e)
    refine ⟨era Hv2 a, em, ⟨⟨S.gr.ex.trans g.ex, S.gr.em.trans em, era_ex.trans g.sub, fun b o e n => ?_⟩, S.len, S.sd.mono em, a, vs, h1, h2, era_same, g.ex _ _ h4, h5.mono em⟩, fun v d hd h => ?_⟩
    · by_cases z : b = a
      · subst z; exact era_same
      · rw [era_ne z]
        refine g.own b o (S.gr.ex b o e) ?_
        rw [upd_ne z]
        exact S.gr.own b o e n
    · rcases hd with hd | hd
      · cases hd
      · exact dp_era e2 d v hd h
theorem xd_asg (h : ED K te (vw ρ ω) d) (hd : ω = none ∨ imm d = true := by first | exact .inl rfl | exact .inr (by rfl) | exact .inr (by assumption)) (hi : ∀ q, ω = some q → q.1 ≠ i := by first | (intro _ h; cases h; done) | (intro _ h; cases h; decide)) : XD K (tAsg te (gName i)) ρ ω (.nx (ρ.set i (some d)) ω) := fun H0 Hm0 E σ H Hm S f => by
  obtain ⟨Hv, s1, s2, s3, s4, s5, s6⟩ := S.view
  refine h σ H Hv s1 s4 s3 _ fun v H2 Hv2 g hv => ?_
  obtain ⟨Hm2, em, S2, back⟩ := S.hide s2 s6 g
  refine f _ H2 Hm2 em ⟨S2.gr, by rw [List.length_set, List.length_set]; exact S.len, S2.sd.set S.len i (back v d hd hv), ?_⟩
  cases ω with
  | none => trivial
  | some q =>
    obtain ⟨a, vs, h1, h2⟩ := S2.own
    exact ⟨a, vs, by rw [List.getElem?_set_ne (Ne.symm (hi _ rfl))]; exact h1, h2⟩
/-- x = a new list, that the def changes itself -/
theorem xd_asgOwn (h : EL K te ρ ds) (hi : i < ρ.length := by first | decide | simp) : XD K (tAsg te (gName i)) ρ none (.nx (ρ.set i none) (some (i, ds))) := fun H0 Hm0 E σ H Hm S f => by
  have hi : i < σ.length := Nat.lt_of_lt_of_le hi S.len
  · refine h σ H Hm S.gr.sub S.len S.sd _ fun p vs H2 Hm2 g hp hm h2 hd => ?_
    exact f _ H2 Hm2 g.em ⟨S.gr.trans g, by rw [List.length_set, List.length_set]; exact S.len, (S.sd.mono g.em).drop i _, p, vs, List.getElem?_set_self hi, fresh_back S.gr.ex hp, hm, h2, hd⟩
end
end LM

set_option Elab.async false
set_option linter.all false
set_option maxRecDepth 100000
/-! Lm3: statements (more), loops, defs, by data. -/
namespace LM
open PySem PySem.Spec PyProof.Rows L2 Evl
section
variable {K : PySem.W.Frag} {ρ ρ' : Rho} {ω ω' : Om} {o : Out} {t u w : TS} {te : TE} {ta : TA} {tt : TT} {d : D} {ds es : List D} {i j : Nat}
theorem xd_ret (h : ED K te (vw ρ ω) d) : XD K (tRet te) ρ ω (.rt d) := fun H0 Hm0 E σ H Hm S f => by
  obtain ⟨Hv, s1, s2, s3, s4, s5, s6⟩ := S.view
  exact h σ H Hv s1 s4 s3 _ fun v H2 Hv2 g hv => f v H2 Hv2 (s5.trans g) hv
theorem xd_retL (h : EL K te (vw ρ ω) ds) : XD K (tRet te) ρ ω (.rt (.list ds)) := xd_ret (ed_el h)
theorem xd_if {b : Bool} (h : ET K tt (vw ρ ω) b) (h1 : b = true → XD K t ρ ω o) (h2 : b = false → XD K u ρ ω o) : XD K (tIfS tt t u) ρ ω o := fun H0 Hm0 E σ H Hm S f => by
  obtain ⟨Hv, s1, s2, s3, s4, s5, s6⟩ := S.view
  refine h σ H Hv s1 s4 s3 _ fun H2 Hv2 g => ?_
  obtain ⟨Hm2, em, S2, back⟩ := S.hide s2 s6 g
  cases b with
  | true => exact h1 rfl H0 Hm0 E σ H2 Hm2 S2 (f.mono em)
  | false => exact h2 rfl H0 Hm0 E σ H2 Hm2 S2 (f.mono em)
theorem xd_ifT (h : ET K tt (vw ρ ω) true) (h1 : XD K t ρ ω o) : XD K (tIfS tt t u) ρ ω o := xd_if h (fun _ => h1) (fun z => nomatch z)
theorem xd_ifF (h : ET K tt (vw ρ ω) false) (h1 : XD K u ρ ω o) : XD K (tIfS tt t u) ρ ω o := xd_if h (fun z => nomatch z) (fun _ => h1)
/-- the own list behind a change -/
theorem Stt.put {H0 Hm0 H Hm : Hp} {σ : L2.St} {vs : List V} {a : Addr} (S : Stt K H0 Hm0 H Hm σ ρ (some (i, ds))) (h1 : σ[i]? = some (some (.ref a))) (h2 : H0 a = none) (h3 : Hm a = none) (hd : DpAll K Hm vs es) :
    Stt K H0 Hm0 (upd H a (.lst vs)) Hm σ ρ (some (i, es)) := by
  refine ⟨⟨Ex.mut S.gr.ex h2, S.gr.em, fun b o e => ?_, S.gr.own⟩, S.len, S.sd, a, vs, h1, h2, h3, upd_same, hd⟩
  have hne : b ≠ a := fun z => by subst z; rw [h3] at e; cases e
  rw [upd_ne hne]; exact S.gr.sub b o e
/-- xs.append(e) -/
theorem xd_app (h : ED K te (ρ.set i (some (.list ds))) d) (hd : imm d = true := by first | rfl | assumption) (hz : ds.length ≤ 90000 := by first | assumption | decide | omega) :
    XD K (tDrop (tBM K "list" rAppend (tVar i) (tCons te tNil))) ρ (some (i, ds)) (.nx ρ (some (i, ds ++ [d]))) := fun H0 Hm0 E σ H Hm S f => by
  obtain ⟨Hv, s1, s2, s3, s4, s5, s6⟩ := S.view
  obtain ⟨a, vs, h1, h2, h3, h4, h5, e⟩ := id s6
  refine ⟨.ref a, h1, .inl ⟨rfl, vs, .inl (.inl h4)⟩, ?_⟩
  refine h σ H Hv s1 s4 s3 _ fun v H2 Hv2 g hv => ?_
  obtain ⟨Hm2, em, S2, back⟩ := S.hide s2 s6 g
  obtain ⟨a', vs', k1, k2, k3, k4, k5⟩ := S2.own
  rw [h1] at k1
  cases k1
  rw [g.ex _ _ h4] at k4
  cases k4
  refine ⟨a, vs, v, rfl, rfl, g.ex _ _ h4, sz_lt (by rw [h5.len]; omega), ?_⟩
  exact f _ _ Hm2 em (S2.put h1 k2 k3 (k5.snoc (back v d (.inr hd) hv)))
/-- .. of a new list -/
theorem xd_appL {cs : List D} (h : EL K te ρ cs) (hi : ∀ d : D, ρ[i]? ≠ some (some d)) (hz : ds.length ≤ 90000 := by first | assumption | decide | omega) :
    XD K (tDrop (tBM K "list" rAppend (tVar i) (tCons te tNil))) ρ (some (i, ds)) (.nx ρ (some (i, ds ++ [.list cs]))) := fun H0 Hm0 E σ H Hm S f => by
  obtain ⟨a, vs, h1, h2, h3, h4, h5⟩ := S.own
  refine ⟨.ref a, h1, .inl ⟨rfl, vs, .inl (.inl h4)⟩, ?_⟩
  refine h σ H Hm S.gr.sub S.len S.sd _ fun p ws H2 Hm2 g hp hm e2 hd => ?_
  have g2 := g.show hp hm e2
  have S2 := S.grow g2
  obtain ⟨a', vs', k1, k2, k3, k4, k5⟩ := S2.own
  rw [h1] at k1
  cases k1
  rw [g.ex _ _ h4] at k4
  cases k4
  refine ⟨a, vs, .ref p, rfl, rfl, g.ex _ _ h4, sz_lt (by rw [h5.len]; omega), ?_⟩
  exact f _ _ _ g2.em (S2.put h1 k2 k3 (k5.snoc (.lst (.inl (.inl upd_same)) (hd.mono (Ex.new hm)))))
/-- .. of data that may hold lists, told without the own list -/
theorem xd_appD (h : ED K te ρ d) (hz : ds.length ≤ 90000 := by first | assumption | decide | omega) :
    XD K (tDrop (tBM K "list" rAppend (tVar i) (tCons te tNil))) ρ (some (i, ds)) (.nx ρ (some (i, ds ++ [d]))) := fun H0 Hm0 E σ H Hm S f => by
  obtain ⟨a, vs, h1, h2, h3, h4, h5⟩ := S.own
  refine ⟨.ref a, h1, .inl ⟨rfl, vs, .inl (.inl h4)⟩, ?_⟩
  refine h σ H Hm S.gr.sub S.len S.sd _ fun v H2 Hm2 g hv => ?_
  have S2 := S.grow g
  obtain ⟨a', vs', k1, k2, k3, k4, k5⟩ := S2.own
  rw [h1] at k1
  cases k1
  rw [g.ex _ _ h4] at k4
  cases k4
  refine ⟨a, vs, v, rfl, rfl, g.ex _ _ h4, sz_lt (by rw [h5.len]; omega), ?_⟩
  exact f _ _ _ g.em (S2.put h1 k2 k3 (k5.snoc hv))
/-- x = e with the own list not read: lists may stand in it -/
theorem xd_asgD (h : ED K te ρ d) (hi : ∀ q, ω = some q → q.1 ≠ i := by first | (intro _ h; cases h; done) | (intro _ h; cases h; decide)) : XD K (tAsg te (gName i)) ρ ω (.nx (ρ.set i (some d)) ω) := fun H0 Hm0 E σ H Hm S f => by
  refine h σ H Hm S.gr.sub S.len S.sd _ fun v H2 Hm2 g hv => ?_
  have S2 := S.grow g
  refine f _ H2 Hm2 g.em ⟨S2.gr, by rw [List.length_set, List.length_set]; exact S.len, S2.sd.set S.len i hv, ?_⟩
  cases ω with
  | none => trivial
  | some q =>
    obtain ⟨a, vs, h1, h2⟩ := S2.own
    exact ⟨a, vs, by rw [List.getElem?_set_ne (Ne.symm (hi _ rfl))]; exact h1, h2⟩
/-- the own list is let go: it is data from then on -/
theorem xd_free (hi : i < ρ.length) (k : XD K t (ρ.set i (some (.list ds))) none o) : XD K t ρ (some (i, ds)) o := fun H0 Hm0 E σ H Hm S f => by
  obtain ⟨Hv, s1, s2, s3, s4, s5, s6⟩ := S.view
  exact k H0 Hm0 E σ H Hv ⟨s5, s4, s3, trivial⟩ (f.mono s2)
/-- a, b = x, y -/
theorem xd_par {d' : D} (h : EDs K ta (vw ρ ω) [d, d']) (hd : ω = none ∨ (imm d = true ∧ imm d' = true) := by first | exact .inl rfl | exact .inr ⟨rfl, rfl⟩ | (right; constructor <;> assumption)) (hi : ∀ q, ω = some q → q.1 ≠ i ∧ q.1 ≠ j := by first | (intro _ h; cases h; done) | (intro _ h; cases h; decide)) :
    XD K (tPar i j ta) ρ ω (.nx ((ρ.set i (some d)).set j (some d')) ω) := fun H0 Hm0 E σ H Hm S f => by
  obtain ⟨Hv, s1, s2, s3, s4, s5, s6⟩ := S.view
  refine h σ H Hv s1 s4 s3 _ fun vs H2 Hv2 g hvs => ?_
  obtain ⟨v, v', rfl, hv, hv'⟩ := dps2 hvs
  obtain ⟨Hm2, em, S2, back⟩ := S.hide s2 s6 g
  have b1 := back v d (hd.imp id And.left) hv
  have b2 := back v' d' (hd.imp id And.right) hv'
  refine ⟨v, v', rfl, f _ H2 Hm2 em ⟨S2.gr, by simp only [List.length_set]; exact S.len, (S2.sd.set S.len i b1).set (by simp only [List.length_set]; exact S.len) j b2, ?_⟩⟩
  cases ω with
  | none => trivial
  | some q =>
    obtain ⟨a, vs, h1, h2⟩ := S2.own
    exact ⟨a, vs, by rw [List.getElem?_set_ne (Ne.symm (hi _ rfl).2), List.getElem?_set_ne (Ne.symm (hi _ rfl).1)]; exact h1, h2⟩
/-- a, b = e -/
theorem xd_unp {d' : D} (h : ED K te (vw ρ ω) (.tuple [d, d'])) (hd : ω = none ∨ (imm d = true ∧ imm d' = true) := by first | exact .inl rfl | exact .inr ⟨rfl, rfl⟩ | (right; constructor <;> assumption)) (hi : ∀ q, ω = some q → q.1 ≠ i ∧ q.1 ≠ j := by first | (intro _ h; cases h; done) | (intro _ h; cases h; decide)) :
    XD K (tAsg te (gTup K 2 (gCons (gName i) (gCons (gName j) gNil)))) ρ ω (.nx ((ρ.set i (some d)).set j (some d')) ω) := fun H0 Hm0 E σ H Hm S f => by
  obtain ⟨Hv, s1, s2, s3, s4, s5, s6⟩ := S.view
  refine h σ H Hv s1 s4 s3 _ fun vt H2 Hv2 g hvt => ?_
  obtain ⟨a, xs, rfl, hx, hvs⟩ := dp_tup hvt
  obtain ⟨v, v', rfl, hv, hv'⟩ := dps2 hvs
  obtain ⟨Hm2, em, S2, back⟩ := S.hide s2 s6 g
  have b1 := back v d (hd.imp id And.left) hv
  have b2 := back v' d' (hd.imp id And.right) hv'
  refine ⟨a, [v, v'], rfl, ex_t g.sub hx, rfl, v, [v'], rfl, v', [], rfl, rfl, f _ H2 Hm2 em ⟨S2.gr, by simp only [List.length_set]; exact S.len, (S2.sd.set S.len i b1).set (by simp only [List.length_set]; exact S.len) j b2, ?_⟩⟩
  cases ω with
  | none => trivial
  | some q =>
    obtain ⟨a, vs, h1, h2⟩ := S2.own
    exact ⟨a, vs, by rw [List.getElem?_set_ne (Ne.symm (hi _ rfl).2), List.getElem?_set_ne (Ne.symm (hi _ rfl).1)]; exact h1, h2⟩
/-- x += e, ints -/
theorem xd_aug {f : Int → Int → Int} {a b : Int} (hx : (vw ρ ω)[i]? = some (some (.int a))) (h : ED K te (vw ρ ω) (.int b)) (hi : ∀ q, ω = some q → q.1 ≠ i := by first | (intro _ h; cases h; done) | (intro _ h; cases h; decide)) : XD K (tAug i te (ipI f)) ρ ω (.nx (ρ.set i (some (.int (f a b)))) ω) := fun H0 Hm0 E σ H Hm S g0 => by
  obtain ⟨Hv, s1, s2, s3, s4, s5, s6⟩ := S.view
  obtain ⟨x, hx1, hx2⟩ := s3 i _ hx
  refine ⟨x, hx1, h σ H Hv s1 s4 s3 _ fun v H2 Hv2 g hv => ⟨a, b, dp_int hx2, dp_int hv, ?_⟩⟩
  obtain ⟨Hm2, em, S2, back⟩ := S.hide s2 s6 g
  refine g0 _ H2 Hm2 em ⟨S2.gr, by rw [List.length_set, List.length_set]; exact S.len, S2.sd.set S.len i (.int _), ?_⟩
  cases ω with
  | none => trivial
  | some q =>
    obtain ⟨a, vs, h1, h2⟩ := S2.own
    exact ⟨a, vs, by rw [List.getElem?_set_ne (Ne.symm (hi _ rfl))]; exact h1, h2⟩

/-! ### loops: the state at turn i is told by functions of i; m turns run through, then the items end, or turn m leaves -/
def Go (K : PySem.W.Frag) (tu : TS) (j : Nat) (items : List D) (ρs : Nat → Rho) (ωs : Nat → Om) (o : Out) : Prop :=
  ∃ m, m ≤ items.length ∧ (∀ i d, i < m → items[i]? = some d → XD K tu ((ρs i).set j (some d)) (ωs i) (.nx (ρs (i + 1)) (ωs (i + 1)))) ∧
    ((m = items.length ∧ o = .nx (ρs m) (ωs m)) ∨ ∃ d, items[m]? = some d ∧ ((∃ r, o = .rt r ∧ XD K tu ((ρs m).set j (some d)) (ωs m) (.rt r)) ∨ ∃ ρ' ω', o = .nx ρ' ω' ∧ XD K tu ((ρs m).set j (some d)) (ωs m) (.bk ρ' ω')))
theorem Go.all {tu : TS} {items : List D} {ρs : Nat → Rho} {ωs : Nat → Om} (h : ∀ i d, items[i]? = some d → XD K tu ((ρs i).set j (some d)) (ωs i) (.nx (ρs (i + 1)) (ωs (i + 1)))) : Go K tu j items ρs ωs (.nx (ρs items.length) (ωs items.length)) :=
  ⟨items.length, Nat.le_refl _, fun i d _ hd => h i d hd, .inl ⟨rfl, rfl⟩⟩
def GoI (K : PySem.W.Frag) (H0 Hm0 Hb : Hp) (ρs : Nat → Rho) (ωs : Nat → Om) (m i : Nat) (σ : L2.St) (H : Hp) : Prop := i ≤ m ∧ ∃ Hm, Ex Hb Hm ∧ Stt K H0 Hm0 H Hm σ (ρs i) (ωs i)
theorem Stt.setv {H0 Hm0 H Hm : Hp} {σ : L2.St} {v : V} (S : Stt K H0 Hm0 H Hm σ ρ ω) (hv : Dp K Hm v d) (hi : ∀ q, ω = some q → q.1 ≠ j) : Stt K H0 Hm0 H Hm (σ.set j (some v)) (ρ.set j (some d)) ω := by
  refine ⟨S.gr, by rw [List.length_set, List.length_set]; exact S.len, S.sd.set S.len j hv, ?_⟩
  cases ω with
  | none => trivial
  | some q =>
    obtain ⟨a, vs, h1, h2⟩ := S.own
    exact ⟨a, vs, by rw [List.getElem?_set_ne (Ne.symm (hi _ rfl))]; exact h1, h2⟩
/-- one turn, in the midst -/
theorem go_turn {tu : TS} {items : List D} {ρs : Nat → Rho} {ωs : Nat → Om} {H0 Hm0 Hb : Hp} {E : Ends} {σ : L2.St} {H : Hp} {v : V} {m : Nat} (hw : ∀ i q, ωs i = some q → q.1 ≠ j)
    (h1 : ∀ i d, i < m → items[i]? = some d → XD K tu ((ρs i).set j (some d)) (ωs i) (.nx (ρs (i + 1)) (ωs (i + 1))))
    (h2 : (m = items.length ∧ o = .nx (ρs m) (ωs m)) ∨ ∃ d, items[m]? = some d ∧ ((∃ r, o = .rt r ∧ XD K tu ((ρs m).set j (some d)) (ωs m) (.rt r)) ∨ ∃ ρ' ω', o = .nx ρ' ω' ∧ XD K tu ((ρs m).set j (some d)) (ωs m) (.bk ρ' ω')))
    (f : Fn K H0 Hm0 Hb E o) (hi : items[i]? = some d) (hv : Dp K Hb v d) (c : GoI K H0 Hm0 Hb ρs ωs m i σ H) :
    tu { E with nx := GoI K H0 Hm0 Hb ρs ωs m (i + 1), ct := GoI K H0 Hm0 Hb ρs ωs m (i + 1), bk := E.nx } (σ.set j (some v)) H := by
  obtain ⟨hm, Hm, em, S⟩ := c
  have S' := S.setv (hv.mono em) (hw i)
  by_cases hlt : i < m
  · exact h1 i d hlt hi H0 Hm0 _ _ H Hm S' fun σ' H' Hm' x S2 => ⟨hlt, Hm', em.trans x, S2⟩
  · have e : i = m := by omega
    subst e
    rcases h2 with ⟨z, _⟩ | ⟨d2, hd2, h3⟩
    · rw [List.getElem?_eq_none (by omega)] at hi; cases hi
    · rw [hi] at hd2
      cases hd2
      rcases h3 with ⟨r, rfl, hx⟩ | ⟨ρ', ω', rfl, hx⟩
      · exact hx H0 Hm0 _ _ H Hm S' f
      · exact hx H0 Hm0 _ _ H Hm S' fun σ' H' Hm' x S2 => f σ' H' Hm' (em.trans x) S2
theorem go_end {tu : TS} {items : List D} {ρs : Nat → Rho} {ωs : Nat → Om} {H0 Hm0 Hb : Hp} {E : Ends} {σ : L2.St} {H : Hp} {m : Nat} (hm : m ≤ items.length)
    (h2 : (m = items.length ∧ o = .nx (ρs m) (ωs m)) ∨ ∃ d, items[m]? = some d ∧ ((∃ r, o = .rt r ∧ XD K tu ((ρs m).set j (some d)) (ωs m) (.rt r)) ∨ ∃ ρ' ω', o = .nx ρ' ω' ∧ XD K tu ((ρs m).set j (some d)) (ωs m) (.bk ρ' ω')))
    (f : Fn K H0 Hm0 Hb E o) (c : GoI K H0 Hm0 Hb ρs ωs m items.length σ H) : E.nx σ H := by
  obtain ⟨hle, Hm, em, S⟩ := c
  rcases h2 with ⟨z, rfl⟩ | ⟨d2, hd2, _⟩
  · rw [← z] at S
    exact f σ H Hm em S
  · rw [List.getElem?_eq_none (by omega)] at hd2; cases hd2
theorem xd_forT {tl : TE} {tu : TS} {items : List D} (ρs : Nat → Rho) (ωs : Nat → Om) (hsrc : ED K tl (vw ρ ω) (.tuple items)) (hd : ω = none ∨ imms items = true := by first | exact .inl rfl | exact .inr (by rfl) | exact .inr (by assumption)) (h0 : ρs 0 = ρ) (h0' : ωs 0 = ω) (hw : ∀ i q, ωs i = some q → q.1 ≠ j) (g : Go K tu j items ρs ωs o) :
    XD K (tFor (iTup K tl) (gName j) tu) ρ ω o := fun H0 Hm0 E σ H Hm S f => by
  obtain ⟨m, hm, h1, h2⟩ := g
  obtain ⟨Hv, s1, s2, s3, s4, s5, s6⟩ := S.view
  refine hsrc σ H Hv s1 s4 s3 _ fun v H1 Hv1 g1 hv => ?_
  obtain ⟨Hm1, em, S1, back⟩ := S.hide s2 s6 g1
  have hv' := back v (.tuple items) (hd.imp id (fun h => h)) hv
  obtain ⟨a, xs, rfl, hx, ha⟩ := dp_tup hv'
  have hl := ha.len
  refine ⟨a, rfl, ⟨xs, ex_t S1.gr.sub hx⟩, ?_⟩
  refine for_tup (xs := xs) (GoI K H0 Hm0 Hm1 ρs ωs m) ⟨Nat.zero_le _, Hm1, Ex.refl _, by rw [h0, h0']; exact S1⟩ (fun i σ' H' _ c => ?_) (fun i x σ' H' hi c => ?_) (fun σ' H' c => ?_)
  · obtain ⟨_, Hm', x, S'⟩ := c
    exact ex_t S'.gr.sub (ex_t x hx)
  · obtain ⟨d, hd, hxd⟩ := ha.get' hi
    exact go_turn hw h1 h2 (f.mono em) hd hxd c
  · rw [hl] at c
    exact go_end hm h2 (f.mono em) c
theorem xd_forL {tl : TE} {tu : TS} {items : List D} (ρs : Nat → Rho) (ωs : Nat → Om) (hsrc : ED K tl ρ (.list items)) (h0 : ρs 0 = ρ) (h0' : ωs 0 = ω) (hw : ∀ i q, ωs i = some q → q.1 ≠ j) (g : Go K tu j items ρs ωs o) :
    XD K (tFor (iList K tl) (gName j) tu) ρ ω o := fun H0 Hm0 E σ H Hm S f => by
  obtain ⟨m, hm, h1, h2⟩ := g
  refine hsrc σ H Hm S.gr.sub S.len S.sd _ fun v H1 Hm1 g1 hv => ?_
  have S1 := S.grow g1
  have em := g1.em
  obtain ⟨a, xs, rfl, hx, ha⟩ := dp_lst hv
  have hl := ha.len
  refine ⟨a, rfl, ⟨xs, ex_l S1.gr.sub hx⟩, ?_⟩
  refine for_list (xs := xs) (GoI K H0 Hm0 Hm1 ρs ωs m) ⟨Nat.zero_le _, Hm1, Ex.refl _, by rw [h0, h0']; exact S1⟩ (fun i σ' H' _ c => ?_) (fun i x σ' H' hi c => ?_) (fun σ' H' c => ?_)
  · obtain ⟨_, Hm', x, S'⟩ := c
    exact ex_l S'.gr.sub (ex_l x hx)
  · obtain ⟨d, hd, hxd⟩ := ha.get' hi
    exact go_turn hw h1 h2 (f.mono em) hd hxd c
  · rw [hl] at c
    exact go_end hm h2 (f.mono em) c
theorem xd_forR1 {ta : TA} {tu : TS} {n : Int} (ρs : Nat → Rho) (ωs : Nat → Om) (hsrc : EDs K ta (vw ρ ω) [.int n]) (hn : n ≤ 1000000000) (hn0 : -1000000000 ≤ n) (h0 : ρs 0 = ρ) (h0' : ωs 0 = ω) (hw : ∀ i q, ωs i = some q → q.1 ≠ j) (g : Go K tu j (rngD 0 n.toNat) ρs ωs o) :
    XD K (tFor (iRng1 ta) (gName j) tu) ρ ω o := fun H0 Hm0 E σ H Hm S f => by
  obtain ⟨m, hm, h1, h2⟩ := g
  obtain ⟨Hv, s1, s2, s3, s4, s5, s6⟩ := S.view
  refine hsrc σ H Hv s1 s4 s3 _ fun vs H1 Hv1 g1 hv => ?_
  obtain ⟨Hm1, em, S1, back⟩ := S.hide s2 s6 g1
  have ev : vs = [.int n] := dp_ints (ns := [n]) hv
  subst ev
  have hl := rngD_len 0 n.toNat
  refine ⟨n, rfl, by omega, by omega, ?_⟩
  refine for_range (lo := 0) (n := n.toNat) (GoI K H0 Hm0 Hm1 ρs ωs m) ⟨Nat.zero_le _, Hm1, Ex.refl _, by rw [h0, h0']; exact S1⟩ (fun i σ' H' hi c => ?_) (fun σ' H' c => ?_)
  · exact go_turn hw h1 h2 (f.mono em) (rngD_get hi) (.int _) c
  · rw [← hl] at c
    exact go_end hm h2 (f.mono em) c
theorem xd_forR2 {ta : TA} {tu : TS} {lo n : Int} (ρs : Nat → Rho) (ωs : Nat → Om) (hsrc : EDs K ta (vw ρ ω) [.int lo, .int n]) (hn : -1000000000 ≤ lo ∧ lo ≤ 1000000000 ∧ -1000000000 ≤ n ∧ n ≤ 1000000000) (h0 : ρs 0 = ρ) (h0' : ωs 0 = ω) (hw : ∀ i q, ωs i = some q → q.1 ≠ j) (g : Go K tu j (rngD lo (n - lo).toNat) ρs ωs o) :
    XD K (tFor (iRng2 ta) (gName j) tu) ρ ω o := fun H0 Hm0 E σ H Hm S f => by
  obtain ⟨m, hm, h1, h2⟩ := g
  obtain ⟨Hv, s1, s2, s3, s4, s5, s6⟩ := S.view
  refine hsrc σ H Hv s1 s4 s3 _ fun vs H1 Hv1 g1 hv => ?_
  obtain ⟨Hm1, em, S1, back⟩ := S.hide s2 s6 g1
  have ev : vs = [.int lo, .int n] := dp_ints (ns := [lo, n]) hv
  subst ev
  have hl := rngD_len lo (n - lo).toNat
  refine ⟨lo, n, rfl, by omega, ?_⟩
  refine for_range (lo := lo) (n := (n - lo).toNat) (GoI K H0 Hm0 Hm1 ρs ωs m) ⟨Nat.zero_le _, Hm1, Ex.refl _, by rw [h0, h0']; exact S1⟩ (fun i σ' H' hi c => ?_) (fun σ' H' c => ?_)
  · exact go_turn hw h1 h2 (f.mono em) (rngD_get hi) (.int _) c
  · rw [← hl] at c
    exact go_end hm h2 (f.mono em) c
/-- while: m turns, then the test fails, or turn m leaves -/
theorem xd_while {tu : TS} (ρs : Nat → Rho) (ωs : Nat → Om) (m : Nat) (h0 : ρs 0 = ρ) (h0' : ωs 0 = ω)
    (h1 : ∀ i, i < m → ET K tt (vw (ρs i) (ωs i)) true ∧ XD K tu (ρs i) (ωs i) (.nx (ρs (i + 1)) (ωs (i + 1))))
    (h2 : (ET K tt (vw (ρs m) (ωs m)) false ∧ o = .nx (ρs m) (ωs m)) ∨ (ET K tt (vw (ρs m) (ωs m)) true ∧ ((∃ r, o = .rt r ∧ XD K tu (ρs m) (ωs m) (.rt r)) ∨ ∃ ρ' ω', o = .nx ρ' ω' ∧ XD K tu (ρs m) (ωs m) (.bk ρ' ω')))) :
    XD K (tWhile tt tu) ρ ω o := fun H0 Hm0 E σ H Hm S f => by
  refine ⟨fun k σ' H' => ∃ i, i + k = m ∧ ∃ Hm', Ex Hm Hm' ∧ Stt K H0 Hm0 H' Hm' σ' (ρs i) (ωs i), ⟨m, 0, by omega, Hm, Ex.refl _, by rw [h0, h0']; exact S⟩, ?_⟩
  rintro k σ1 H1 ⟨i, hik, Hm1, e1, S1⟩
  obtain ⟨Hv, s1, s2, s3, s4, s5, s6⟩ := S1.view
  by_cases hlt : i < m
  · obtain ⟨c1, c2⟩ := h1 i hlt
    refine c1 σ1 H1 Hv s1 s4 s3 _ fun H2 Hv2 g => ?_
    obtain ⟨Hm2, em, S2, back⟩ := S1.hide s2 s6 g
    simp only [if_true]
    refine ⟨_, fun σ' H' hN => hN, c2 H0 Hm0 { E with nx := fun σ' H' => ∃ m', m' < k ∧ ∃ i', i' + m' = m ∧ ∃ Hm', Ex Hm Hm' ∧ Stt K H0 Hm0 H' Hm' σ' (ρs i') (ωs i'), ct := fun σ' H' => ∃ m', m' < k ∧ ∃ i', i' + m' = m ∧ ∃ Hm', Ex Hm Hm' ∧ Stt K H0 Hm0 H' Hm' σ' (ρs i') (ωs i'), bk := E.nx } σ1 H2 Hm2 S2 fun σ' H' Hm' x S' => ⟨k - 1, by omega, i + 1, by omega, Hm', (e1.trans em).trans x, S'⟩⟩
  · have e : i = m := by omega
    subst e
    rcases h2 with ⟨c1, rfl⟩ | ⟨c1, c2⟩
    · refine c1 σ1 H1 Hv s1 s4 s3 _ fun H2 Hv2 g => ?_
      obtain ⟨Hm2, em, S2, back⟩ := S1.hide s2 s6 g
      simp only [Bool.false_eq_true, if_false]
      exact f σ1 H2 Hm2 (e1.trans em) S2
    · refine c1 σ1 H1 Hv s1 s4 s3 _ fun H2 Hv2 g => ?_
      obtain ⟨Hm2, em, S2, back⟩ := S1.hide s2 s6 g
      simp only [if_true]
      refine ⟨fun _ _ => False, fun _ _ z => z.elim, ?_⟩
      rcases c2 with ⟨r, rfl, hx⟩ | ⟨ρ', ω', rfl, hx⟩
      · exact hx H0 Hm0 { E with nx := fun _ _ => False, ct := fun _ _ => False, bk := E.nx } σ1 H2 Hm2 S2 f
      · exact hx H0 Hm0 { E with nx := fun _ _ => False, ct := fun _ _ => False, bk := E.nx } σ1 H2 Hm2 S2 fun σ' H' Hm' x S' => f σ' H' Hm' ((e1.trans em).trans x) S'
end

/-! ### defs -/
def startR (N : List Str) (ds : List D) : Rho := ds.map some ++ List.replicate (N.length - ds.length) none
theorem startR_len {N : List Str} {ds : List D} (h : ds.length ≤ N.length) : (startR N ds).length = N.length := by
  unfold startR
  rw [List.length_append, List.length_map, List.length_replicate]; omega
theorem start_sd {K : PySem.W.Frag} {Hm : Hp} {N : List Str} {vs : List V} {ds : List D} (h : DpAll K Hm vs ds) : Sd K Hm (L2.start N vs) (startR N ds) := fun i d hi => by
  unfold startR at hi
  unfold L2.start
  by_cases hl : i < ds.length
  · rw [List.getElem?_append_left (by rw [List.length_map]; exact hl), List.getElem?_map] at hi
    obtain ⟨d', h1, h2⟩ := Option.map_eq_some_iff.mp hi
    cases h2
    obtain ⟨v, h3, h4⟩ := h.get h1
    have : i < vs.length := by rw [h.len]; exact hl
    exact ⟨v, by rw [List.getElem?_append_left (by rw [List.length_map]; exact this), List.getElem?_map, h3]; rfl, h4⟩
  · rw [List.getElem?_append_right (by rw [List.length_map]; omega)] at hi
    have := List.mem_of_getElem? hi
    rw [List.mem_replicate] at this
    cases this.2
structure Has (P : Program) (w : World) (K : PySem.W.Frag) (mg : Str → Option Value) (base : Heap) (k : Nat) (x : Str) (sp : Sp) : Prop where
  ex : ∃ f fd ps, FnOk P w K mg base CX0 k f fd ps sp ∧ mg x = some (.ref f) ∧ PySem.W.keepIn K (.ref f) = true ∧ Binds K fd ps []
theorem Has.mono {P : Program} {w : World} {K : PySem.W.Frag} {mg : Str → Option Value} {base : Heap} {j k : Nat} {x : Str} {sp : Sp} (h : Has P w K mg base j x sp) (hk : j ≤ k) : Has P w K mg base k x sp :=
  let ⟨f, fd, ps, F, a, b, c⟩ := h.ex
  ⟨f, fd, ps, F.mono hk, a, b, c⟩
section
variable {X : Cx} {k j : Nat} {x : Str} {sp : Sp} {e : Expr} {es : List Expr} {p pos : Pos} {t : TA}
theorem pe_h (c : Has X.prog X.w X.K X.mg X.base k x sp) (hr : Room j X.A) (hk : k ≤ j) (hg : Gl X x) (ha : PA X (e :: es) t)
    (hd : (x == ("__debug__" : Str)) = false := by decide) (hs : starEach (e :: es) X.env = (false, eval e X.env) :: starEach es X.env := by rfl) (hpl : (backTo pos (starEach es X.env)).any (·.1) = false := by rfl) :
    PE X (.Call (.Name x p) (e :: es) [] pos) (tCall sp [] E0 t) := by
  obtain ⟨f, fd, ps, F, hm, kp, b⟩ := c.ex
  exact pe_call F (hr.mono hk) hg hm kp b .nil pass0 ha (hdb := hd) (he := hs) (hpl := hpl)
theorem pe_h0 (c : Has X.prog X.w X.K X.mg X.base k x sp) (hr : Room j X.A) (hk : k ≤ j) (hg : Gl X x)
    (hd : (x == ("__debug__" : Str)) = false := by decide) :
    PE X (.Call (.Name x p) [] [] pos) (tCall sp [] E0 tNil) := by
  obtain ⟨f, fd, ps, F, hm, kp, b⟩ := c.ex
  exact pe_call0 F (hr.mono hk) hg hm kp b .nil pass0 (hdb := hd)
end
/-- a def that hands back data of data -/
theorem has_of {P : Program} {w : World} {K : PySem.W.Frag} {mg : Str → Option Value} {base : Heap} {x : Str} {st : Stmt} {f : Addr} {fd : FuncData} {N ps : List Str} {k : Nat} {R : List D → D → Prop} (F : Fun K x x st f fd) (b : Binds K fd ps []) (hm : mg x = some (.ref f)) (S : FnScope N ps (defScope st)) (hN : ps.length ≤ N.length)
    (len : ∀ ds r, R ds r → ds.length = ps.length)
    (hbody : ∀ (cdv : Value) (A : Around) (outer : List Env) (s : Shared) (H : Hp) (E : XK), Room k (A.deeper (envOfC x (defScope st) s.heap.objs.size f cdv)) →
      ∃ t, PSs (cxOf CX0 P w K mg base N x (defScope st) f cdv A outer s H E).nox (defBody st) t ∧ ∀ ds r, R ds r → XD K t (startR N ds) none (.rt r)) : Has P w K mg base (k + 1) x (SpR K R) := by
  refine ⟨f, fd, ps, F.ok S (fun vs H Q E h => ?_) (fun cdv A outer s H vs Q E hr h => ?_), hm, F.kp, b⟩
  · obtain ⟨ds, r, Hm, _, hd, hR, _⟩ := h
    rw [hd.len, len ds r hR]
  · obtain ⟨t, h1, h2⟩ := hbody cdv A outer s H E hr
    refine ⟨t, h1, ?_⟩
    obtain ⟨ds, r, Hm, s1, hd, hR, q⟩ := h
    have hl := len ds r hR
    exact h2 ds r hR H Hm _ (L2.start N vs) H Hm ⟨Gr.refl s1, by rw [startR_len (by omega)]; unfold L2.start; rw [List.length_append, List.length_map, List.length_replicate]; have := hd.len; omega, start_sd hd, trivial⟩ fun v H' Hm' g hv => q v H' Hm' g hv
end LM

set_option Elab.async false
set_option linter.all false
set_option maxRecDepth 100000
/-! LmT: tuples of tuples and nothing else (T), as data, their order, sorted lists of them. Plain mathematics. -/
namespace LM
open PySem
inductive T where
  | n (ts : List T)
namespace T
mutual
def data : T → PyData
  | .n ts => .tuple (datas ts)
def datas : List T → List PyData
  | [] => []
  | t :: ts => data t :: datas ts
end
theorem datas_eq : ∀ ts : List T, datas ts = ts.map data
  | [] => rfl
  | t :: ts => by rw [datas, datas_eq ts]; rfl
theorem data_n (ts : List T) : data (.n ts) = .tuple (ts.map data) := by rw [data, datas_eq]
mutual
def cmp : T → T → Ordering
  | .n xs, .n ys => cmps xs ys
def cmps : List T → List T → Ordering
  | [], [] => .eq
  | [], _ :: _ => .lt
  | _ :: _, [] => .gt
  | x :: xs, y :: ys => match cmp x y with
    | .eq => cmps xs ys
    | .lt => .lt
    | .gt => .gt
end
mutual
theorem cmp_self : ∀ x : T, cmp x x = .eq
  | .n xs => by rw [cmp]; exact cmps_self xs
theorem cmps_self : ∀ xs : List T, cmps xs xs = .eq
  | [] => by rw [cmps]
  | x :: xs => by rw [cmps, cmp_self x]; exact cmps_self xs
end
mutual
theorem eq_of_cmp : ∀ x y : T, cmp x y = .eq → x = y
  | .n xs, .n ys, h => by rw [cmp] at h; rw [eq_of_cmps xs ys h]
theorem eq_of_cmps : ∀ xs ys : List T, cmps xs ys = .eq → xs = ys
  | [], [], _ => rfl
  | [], _ :: _, h => by rw [cmps] at h; cases h
  | _ :: _, [], h => by rw [cmps] at h; cases h
  | x :: xs, y :: ys, h => by
    rw [cmps] at h
    cases e : cmp x y with
    | eq =>
      rw [e] at h
      rw [eq_of_cmp x y e, eq_of_cmps xs ys h]
    | lt => rw [e] at h; cases h
    | gt => rw [e] at h; cases h
end
mutual
theorem cmp_swap : ∀ x y : T, cmp y x = (cmp x y).swap
  | .n xs, .n ys => by rw [cmp, cmp]; exact cmps_swap xs ys
theorem cmps_swap : ∀ xs ys : List T, cmps ys xs = (cmps xs ys).swap
  | [], [] => by rw [cmps]; rfl
  | [], _ :: _ => by rw [cmps, cmps]; rfl
  | _ :: _, [] => by rw [cmps, cmps]; rfl
  | x :: xs, y :: ys => by
    rw [cmps, cmps, cmp_swap x y]
    cases e : cmp x y with
    | eq => exact cmps_swap xs ys
    | lt => rfl
    | gt => rfl
end
mutual
theorem cmp_trans : ∀ x y z : T, cmp x y = .lt → cmp y z = .lt → cmp x z = .lt
  | .n xs, .n ys, .n zs, h1, h2 => by rw [cmp] at *; exact cmps_trans xs ys zs h1 h2
theorem cmps_trans : ∀ xs ys zs : List T, cmps xs ys = .lt → cmps ys zs = .lt → cmps xs zs = .lt
  | [], _, [], h1, h2 => by
    rename_i ys
    cases ys with
    | nil => rw [cmps] at h1; cases h1
    | cons _ _ => rw [cmps] at h2; cases h2
  | [], _, _ :: _, _, _ => by rw [cmps]
  | _ :: _, [], _, h1, _ => by rw [cmps] at h1; cases h1
  | _ :: _, _ :: _, [], _, h2 => by rw [cmps] at h2; cases h2
  | x :: xs, y :: ys, z :: zs, h1, h2 => by
    rw [cmps] at h1 h2 ⊢
    cases e1 : cmp x y with
    | gt => rw [e1] at h1; cases h1
    | eq =>
      have := eq_of_cmp x y e1
      subst this
      rw [e1] at h1
      cases e2 : cmp x z with
      | gt => rw [e2] at h2; cases h2
      | lt => rfl
      | eq =>
        rw [e2] at h2
        exact cmps_trans xs ys zs h1 h2
    | lt =>
      cases e2 : cmp y z with
      | gt => rw [e2] at h2; cases h2
      | eq =>
        have := eq_of_cmp y z e2
        subst this
        rw [e1]
      | lt => rw [cmp_trans x y z e1 e2]
end
theorem cmp_eq {x y : T} : cmp x y = .eq ↔ x = y := ⟨eq_of_cmp x y, fun e => e ▸ cmp_self x⟩
instance : DecidableEq T := fun x y => if h : cmp x y = .eq then .isTrue (eq_of_cmp x y h) else .isFalse fun e => h (e ▸ cmp_self x)
theorem swap_gt {x y : T} : cmp x y = .gt ↔ cmp y x = .lt := by rw [cmp_swap x y]; cases cmp x y <;> decide
def lt (x y : T) : Bool := cmp x y == .lt
def lts (xs ys : List T) : Bool := cmps xs ys == .lt
theorem lt_iff {x y : T} : lt x y = true ↔ cmp x y = .lt := by unfold lt; cases cmp x y <;> decide
theorem lt_irr (x : T) : lt x x = false := by unfold lt; rw [cmp_self]; rfl
theorem lt_trans {x y z : T} (h1 : lt x y = true) (h2 : lt y z = true) : lt x z = true := lt_iff.mpr (cmp_trans x y z (lt_iff.mp h1) (lt_iff.mp h2))
theorem lt_asym {x y : T} (h : lt x y = true) : lt y x = false := by
  unfold lt
  rw [cmp_swap x y, lt_iff.mp h]; rfl
theorem lt_tot {x y : T} (h1 : lt x y = false) (h2 : lt y x = false) : x = y := by
  unfold lt at h1 h2
  rw [cmp_swap x y] at h2
  cases e : cmp x y with
  | eq => exact eq_of_cmp x y e
  | lt => rw [e] at h1; cases h1
  | gt => rw [e] at h2; cases h2
theorem nlt_trans {x y z : T} (h1 : lt y x = false) (h2 : lt z y = false) : lt z x = false := by
  cases h : lt z x with
  | false => rfl
  | true =>
    cases h3 : lt x y with
    | true => rw [lt_trans h h3] at h2; cases h2
    | false =>
      have := lt_tot h3 h1
      subst this
      rw [h] at h2; cases h2
/-- not above -/
def le (x y : T) : Prop := lt y x = false
theorem le_anti {x y : T} (h1 : le x y) (h2 : le y x) : x = y := lt_tot h2 h1
/-- strictly rising -/
def Asc (l : List T) : Prop := l.Pairwise fun x y => lt x y = true
theorem Asc.nodup {l : List T} (h : Asc l) : l.Nodup := h.imp fun {x y} hxy e => by
  rw [e, lt_irr] at hxy; cases hxy
theorem asc_ext : ∀ {l m : List T}, Asc l → Asc m → (∀ x, x ∈ l ↔ x ∈ m) → l = m
  | [], [], _, _, _ => rfl
  | [], y :: m, _, _, h => absurd ((h y).mpr List.mem_cons_self) (by simp)
  | x :: l, [], _, _, h => absurd ((h x).mp List.mem_cons_self) (by simp)
  | x :: l, y :: m, hl, hm, h => by
    have hl' := List.pairwise_cons.mp hl
    have hm' := List.pairwise_cons.mp hm
    have e : x = y := by
      rcases List.mem_cons.mp ((h x).mp List.mem_cons_self) with e | hx
      · exact e
      · rcases List.mem_cons.mp ((h y).mpr List.mem_cons_self) with e | hy
        · exact e.symm
        · have a := hm'.1 x hx
          have b := hl'.1 y hy
          rw [lt_asym a] at b; cases b
    subst e
    rw [asc_ext hl'.2 hm'.2 fun z => ?_]
    constructor
    · intro hz
      rcases List.mem_cons.mp ((h z).mp (List.mem_cons_of_mem _ hz)) with e | hz'
      · have := hl'.1 z hz
        rw [e, lt_irr] at this; cases this
      · exact hz'
    · intro hz
      rcases List.mem_cons.mp ((h z).mpr (List.mem_cons_of_mem _ hz)) with e | hz'
      · have := hm'.1 z hz
        rw [e, lt_irr] at this; cases this
      · exact hz'
/-- put in its place, once -/
def uins (x : T) : List T → List T
  | [] => [x]
  | y :: ys => match cmp x y with
    | .lt => x :: y :: ys
    | .eq => y :: ys
    | .gt => y :: uins x ys
/-- the set, rising -/
def set : List T → List T
  | [] => []
  | x :: xs => uins x (set xs)
theorem mem_uins {x z : T} : ∀ {l : List T}, z ∈ uins x l ↔ z = x ∨ z ∈ l
  | [] => by simp [uins]
  | y :: ys => by
    unfold uins
    cases e : cmp x y with
    | lt => simp
    | eq =>
      have := eq_of_cmp x y e
      subst this
      simp only [List.mem_cons]
      constructor
      · exact fun h => .inr h
      · rintro (h | h)
        · exact .inl h
        · exact h
    | gt =>
      simp only [List.mem_cons, mem_uins (l := ys)]
      constructor
      · rintro (h | h | h)
        · exact .inr (.inl h)
        · exact .inl h
        · exact .inr (.inr h)
      · rintro (h | h | h)
        · exact .inr (.inl h)
        · exact .inl h
        · exact .inr (.inr h)
theorem mem_set {z : T} : ∀ {l : List T}, z ∈ set l ↔ z ∈ l
  | [] => by simp [set]
  | x :: xs => by rw [set, mem_uins, mem_set (l := xs), List.mem_cons]
theorem asc_uins {x : T} : ∀ {l : List T}, Asc l → Asc (uins x l)
  | [], _ => List.pairwise_singleton _ _
  | y :: ys, h => by
    have h' := List.pairwise_cons.mp h
    unfold uins
    cases e : cmp x y with
    | lt =>
      refine List.pairwise_cons.mpr ⟨fun z hz => ?_, h⟩
      rcases List.mem_cons.mp hz with rfl | hz
      · exact lt_iff.mpr e
      · exact lt_trans (lt_iff.mpr e) (h'.1 z hz)
    | eq => exact h
    | gt =>
      refine List.pairwise_cons.mpr ⟨fun z hz => ?_, asc_uins h'.2⟩
      rcases mem_uins.mp hz with rfl | hz
      · exact lt_iff.mpr (swap_gt.mp e)
      · exact h'.1 z hz
theorem asc_set : ∀ l : List T, Asc (set l)
  | [] => List.Pairwise.nil
  | x :: xs => asc_uins (asc_set xs)
theorem set_of {l m : List T} (h : Asc l) (e : ∀ x, x ∈ l ↔ x ∈ m) : l = set m := asc_ext h (asc_set m) fun x => by rw [e, mem_set]
theorem set_idem {l : List T} (h : Asc l) : set l = l := (set_of h fun _ => Iff.rfl).symm
theorem set_ext {l m : List T} (e : ∀ x, x ∈ l ↔ x ∈ m) : set l = set m := asc_ext (asc_set l) (asc_set m) fun x => by rw [mem_set, mem_set, e]
theorem set_len (l : List T) : (set l).length ≤ l.length := by
  have key : ∀ (x : T) (l : List T), (uins x l).length ≤ l.length + 1 := by
    intro x l
    induction l with
    | nil => simp [uins]
    | cons y ys ih =>
      unfold uins
      cases cmp x y <;> simp <;> omega
  induction l with
  | nil => simp [set]
  | cons x xs ih =>
    have := key x (set xs)
    rw [set, List.length_cons]; omega
/-- put in its place -/
def ins (x : T) : List T → List T
  | [] => [x]
  | y :: ys => if lt y x = true then y :: ins x ys else x :: y :: ys
def sort : List T → List T
  | [] => []
  | x :: xs => ins x (sort xs)
def Srt (l : List T) : Prop := l.Pairwise fun x y => lt y x = false
theorem ins_perm (x : T) : ∀ l : List T, (ins x l).Perm (x :: l)
  | [] => List.Perm.refl _
  | y :: ys => by
    unfold ins
    split
    · exact ((ins_perm x ys).cons y).trans (List.Perm.swap x y ys)
    · exact List.Perm.refl _
theorem sort_perm : ∀ l : List T, (sort l).Perm l
  | [] => List.Perm.refl _
  | x :: xs => (ins_perm x (sort xs)).trans ((sort_perm xs).cons x)
theorem ins_srt {x : T} : ∀ {l : List T}, Srt l → Srt (ins x l)
  | [], _ => List.pairwise_singleton _ _
  | y :: ys, h => by
    have h' := List.pairwise_cons.mp h
    unfold ins
    split
    · rename_i hc
      refine List.pairwise_cons.mpr ⟨fun z hz => ?_, ins_srt h'.2⟩
      rcases List.mem_cons.mp ((ins_perm x ys).mem_iff.mp hz) with rfl | hz
      · exact lt_asym hc
      · exact h'.1 z hz
    · rename_i hc
      have hc : lt y x = false := by
        cases e : lt y x with
        | false => rfl
        | true => exact absurd e hc
      refine List.pairwise_cons.mpr ⟨fun z hz => ?_, h⟩
      rcases List.mem_cons.mp hz with rfl | hz
      · exact hc
      · exact nlt_trans hc (h'.1 z hz)
theorem sort_srt : ∀ l : List T, Srt (sort l)
  | [] => List.Pairwise.nil
  | x :: xs => ins_srt (sort_srt xs)
theorem srt_uniq : ∀ {l m : List T}, Srt l → Srt m → l.Perm m → l = m
  | [], m, _, _, h => (List.Perm.eq_nil h.symm).symm
  | x :: l, [], _, _, h => absurd h.length_eq (by simp)
  | x :: l, y :: m, hl, hm, h => by
    have hl' := List.pairwise_cons.mp hl
    have hm' := List.pairwise_cons.mp hm
    have e : x = y := by
      rcases List.mem_cons.mp (h.mem_iff.mp (List.mem_cons_self (a := x) (l := l))) with e | hx
      · exact e
      · rcases List.mem_cons.mp (h.mem_iff.mpr (List.mem_cons_self (a := y) (l := m))) with e | hy
        · exact e.symm
        · exact lt_tot (hm'.1 x hx) (hl'.1 y hy)
    subst e
    rw [srt_uniq hl'.2 hm'.2 h.cons_inv]
theorem sort_of {l m : List T} (h : Srt l) (p : l.Perm m) : l = sort m := srt_uniq h (sort_srt m) (p.trans (sort_perm m).symm)
theorem Asc.srt {l : List T} (h : Asc l) : Srt l := h.imp fun hxy => lt_asym hxy
theorem mem_sort {x : T} {l : List T} : x ∈ sort l ↔ x ∈ l := (sort_perm l).mem_iff
theorem sort_len (l : List T) : (sort l).length = l.length := (sort_perm l).length_eq
/-- from the left, an item that the last one is not -/
def once (acc : List T) : List T → List T
  | [] => acc
  | x :: xs => once (if acc.getLast? = some x then acc else acc ++ [x]) xs
theorem once_set : ∀ (l acc : List T), Asc acc → Srt l → (∀ x ∈ acc, ∀ y ∈ l, lt y x = false) → Asc (once acc l) ∧ ∀ x, x ∈ once acc l ↔ x ∈ acc ∨ x ∈ l
  | [], acc, h, _, _ => ⟨h, fun x => by simp [once]⟩
  | x :: xs, acc, h, hs, hb => by
    have hs' := List.pairwise_cons.mp hs
    unfold once
    by_cases hc : acc.getLast? = some x
    · rw [if_pos hc]
      have hm : x ∈ acc := List.mem_of_getLast? hc
      obtain ⟨h1, h2⟩ := once_set xs acc h hs'.2 fun a ha y hy => hb a ha y (List.mem_cons_of_mem _ hy)
      refine ⟨h1, fun z => ?_⟩
      rw [h2, List.mem_cons]
      constructor
      · rintro (h | h)
        · exact .inl h
        · exact .inr (.inr h)
      · rintro (h | rfl | h)
        · exact .inl h
        · exact .inl hm
        · exact .inr h
    · rw [if_neg hc]
      have hx : ∀ a ∈ acc, lt a x = true := fun a ha => by
        have h1 := hb a ha x List.mem_cons_self
        cases h2 : lt a x with
        | true => rfl
        | false =>
          exfalso
          have e := lt_tot h2 h1
          subst e
          cases hl : acc.getLast? with
          | none => rw [List.getLast?_eq_none_iff] at hl; rw [hl] at ha; cases ha
          | some b =>
            have hbm := List.mem_of_getLast? hl
            have hba := hb b hbm a List.mem_cons_self
            obtain ⟨pre, rfl⟩ := List.getLast?_eq_some_iff.mp hl
            rcases List.mem_append.mp ha with ha | ha
            · have := (List.pairwise_append.mp h).2.2 a ha b (by simp)
              rw [this] at hba; cases hba
            · have : a = b := by simpa using ha
              subst this
              exact hc hl
      have h3 : Asc (acc ++ [x]) := List.pairwise_append.mpr ⟨h, List.pairwise_singleton _ _, fun a ha b hb => by
        have : b = x := by simpa using hb
        subst this
        exact hx a ha⟩
      obtain ⟨h1, h2⟩ := once_set xs (acc ++ [x]) h3 hs'.2 fun a ha y hy => by
        rcases List.mem_append.mp ha with ha | ha
        · exact hb a ha y (List.mem_cons_of_mem _ hy)
        · have : a = x := by simpa using ha
          subst this
          exact hs'.1 y hy
      refine ⟨h1, fun z => ?_⟩
      rw [h2, List.mem_append, List.mem_singleton, List.mem_cons, or_assoc]
theorem once_sort (l : List T) : once [] (sort l) = set l := by
  obtain ⟨h1, h2⟩ := once_set (sort l) [] List.Pairwise.nil (sort_srt l) (fun a ha => by cases ha)
  refine set_of h1 fun x => ?_
  rw [h2, mem_sort]
  simp
mutual
/-- how deep the tuples are -/
def depth : T → Nat
  | .n ts => depths ts + 1
def depths : List T → Nat
  | [] => 0
  | t :: ts => max (depth t) (depths ts)
end
theorem depth_mem {t : T} : ∀ {ts : List T}, t ∈ ts → depth t ≤ depths ts
  | [], h => by cases h
  | u :: us, h => by
    rw [depths]
    rcases List.mem_cons.mp h with rfl | h
    · exact Nat.le_max_left _ _
    · exact Nat.le_trans (depth_mem h) (Nat.le_max_right _ _)
theorem depths_le {k : Nat} : ∀ {ts : List T}, (∀ t ∈ ts, depth t ≤ k) → depths ts ≤ k
  | [], _ => by rw [depths]; exact Nat.zero_le _
  | u :: us, h => by
    rw [depths]
    exact Nat.max_le.mpr ⟨h u List.mem_cons_self, depths_le fun t ht => h t (List.mem_cons_of_mem _ ht)⟩
mutual
theorem data_depth : ∀ t : T, (data t).depth = depth t
  | .n ts => by rw [data, PyData.depth, depth, datas_depth ts]
theorem datas_depth : ∀ ts : List T, PyData.depthAll (datas ts) = depths ts
  | [] => by rw [datas, PyData.depthAll, depths]
  | t :: ts => by rw [datas, PyData.depthAll, depths, data_depth t, datas_depth ts]
end
mutual
theorem data_lay : ∀ t : T, (data t).canLay0 = true
  | .n ts => by rw [data, PyData.canLay0]; exact datas_lay ts
theorem datas_lay : ∀ ts : List T, PyData.canLayAll0 (datas ts) = true
  | [] => by rw [datas, PyData.canLayAll0]
  | t :: ts => by rw [datas, PyData.canLayAll0, data_lay t, datas_lay ts]; rfl
end
theorem data_shaped {t : T} (h : depth t ≤ 64) : SeqAt.shaped (data t) = true := by
  unfold SeqAt.shaped
  rw [data_lay, data_depth]
  simpa using h
mutual
theorem data_inj : ∀ x y : T, data x = data y → x = y
  | .n xs, .n ys, h => by
    rw [data, data] at h
    rw [datas_inj xs ys (PyData.tuple.inj h)]
theorem datas_inj : ∀ xs ys : List T, datas xs = datas ys → xs = ys
  | [], [], _ => rfl
  | [], _ :: _, h => by rw [datas, datas] at h; cases h
  | _ :: _, [], h => by rw [datas, datas] at h; cases h
  | x :: xs, y :: ys, h => by
    rw [datas, datas] at h
    injection h with h1 h2
    rw [data_inj x y h1, datas_inj xs ys h2]
end
mutual
theorem data_eqv : ∀ x y : T, PyData.eqv (data x) (data y) = decide (x = y)
  | .n xs, .n ys => by
    rw [data, data, PyData.eqv, datas_eqv xs ys]
    by_cases h : xs = ys
    · subst h; simp
    · have : ¬ T.n xs = T.n ys := fun e => h (T.n.inj e)
      rw [decide_eq_false h, decide_eq_false this]
theorem datas_eqv : ∀ xs ys : List T, PyData.eqvAll (datas xs) (datas ys) = decide (xs = ys)
  | [], [] => by simp [datas, PyData.eqvAll]
  | [], _ :: _ => by simp [datas, PyData.eqvAll]
  | _ :: _, [] => by simp [datas, PyData.eqvAll]
  | x :: xs, y :: ys => by
    rw [datas, datas, PyData.eqvAll, data_eqv x y, datas_eqv xs ys]
    by_cases h1 : x = y
    · by_cases h2 : xs = ys
      · simp [h1, h2]
      · simp [h1, h2]
    · simp [h1]
end
end T
end LM

set_option Elab.async false
set_option linter.all false
set_option maxRecDepth 100000
/-! Lm4: <, >= and sorted of tuples of tuples (T). -/
namespace LM
open PySem PySem.Spec PyProof.Rows L2 Evl
mutual
inductive IsT (h : Heap) : T → Value → Prop
  | n {a o ts k} {vs : Array Value} : h.get? a = some o → o.cls = .type "tuple" → o.data = .seq vs k → IsTs h ts vs.toList → IsT h (.n ts) (.ref a)
inductive IsTs (h : Heap) : List T → List Value → Prop
  | nil : IsTs h [] []
  | cons {t v ts vs} : IsT h t v → IsTs h ts vs → IsTs h (t :: ts) (v :: vs)
end
theorem IsTs.len {h : Heap} : ∀ {ts : List T} {vs : List Value}, IsTs h ts vs → vs.length = ts.length
  | _, _, .nil => rfl
  | _, _, .cons _ r => congrArg (· + 1) (IsTs.len r)
mutual
theorem IsT.reads {h : Heap} : ∀ (t : T) (v : Value), IsT h t v → ∃ as, Reads h v t.data as
  | .n ts, _, x => by
    cases x with
    | n h1 h2 h3 h4 =>
      obtain ⟨as, r⟩ := IsTs.reads ts _ h4
      exact ⟨as, by rw [T.data]; exact Reads.tuple h1 h2 h3 r⟩
theorem IsTs.reads {h : Heap} : ∀ (ts : List T) (vs : List Value), IsTs h ts vs → ∃ as, ReadsAll h vs (T.datas ts) as
  | [], _, x => by cases x; exact ⟨_, by rw [T.datas]; exact ReadsAll.nil⟩
  | t :: ts, _, x => by
    cases x with
    | cons h1 h2 =>
      obtain ⟨as, r1⟩ := IsT.reads t _ h1
      obtain ⟨bs, r2⟩ := IsTs.reads ts _ h2
      exact ⟨_, by rw [T.datas]; exact ReadsAll.cons r1 r2⟩
end
mutual
theorem IsT.keep {h h' : Heap} (k : ∀ b o, h.get? b = some o → o.cls = .type "tuple" → h'.get? b = some o) : ∀ (t : T) (v : Value), IsT h t v → IsT h' t v
  | .n ts, _, x => by
    cases x with
    | n h1 h2 h3 h4 => exact .n (k _ _ h1 h2) h2 h3 (IsTs.keep k ts _ h4)
theorem IsTs.keep {h h' : Heap} (k : ∀ b o, h.get? b = some o → o.cls = .type "tuple" → h'.get? b = some o) : ∀ (ts : List T) (vs : List Value), IsTs h ts vs → IsTs h' ts vs
  | [], _, x => by cases x; exact .nil
  | t :: ts, _, x => by
    cases x with
    | cons h1 h2 => exact .cons (IsT.keep k t _ h1) (IsTs.keep k ts _ h2)
end
mutual
theorem IsT.inj {h : Heap} : ∀ (t u : T) (v : Value), IsT h t v → IsT h u v → t = u
  | .n ts, _, _, x, y => by
    cases x with
    | n h1 h2 h3 h4 =>
      cases y with
      | n k1 k2 k3 k4 =>
        rw [h1] at k1; cases k1
        rw [h3] at k3; cases k3
        rw [IsTs.inj ts _ _ h4 k4]
theorem IsTs.inj {h : Heap} : ∀ (ts us : List T) (vs : List Value), IsTs h ts vs → IsTs h us vs → ts = us
  | [], _, _, x, y => by cases x; cases y; rfl
  | t :: ts, _, _, x, y => by
    cases x with
    | cons h1 h2 =>
      cases y with
      | cons k1 k2 => rw [IsT.inj t _ _ h1 k1, IsTs.inj ts _ _ h2 k2]
end
theorem IsTs.get {h : Heap} : ∀ {ts : List T} {vs : List Value} {i : Nat} (h1 : i < vs.length) (h2 : i < ts.length), IsTs h ts vs → IsT h ts[i] vs[i]
  | _, _, 0, _, _, .cons x _ => x
  | _, _, i + 1, h1, h2, .cons _ r => IsTs.get (i := i) (by simpa using h1) (by simpa using h2) r
/-- == of two of them -/
theorem eqAt_T {x y : T} {A : Around} {s : Shared} {a b : Value} (h1 : IsT s.heap x a) (h2 : IsT s.heap y b) (hu : A.units + min x.depth y.depth < cLine) : SeqAt.EqAt A s a b (decide (x = y)) := by
  obtain ⟨as, r1⟩ := h1.reads
  obtain ⟨bs, r2⟩ := h2.reads
  have q := SeqAt.eqAt_reads x.data y.data A s a b as bs r1 r2 (T.data_lay x) (T.data_lay y) (by rw [T.data_depth, T.data_depth]; exact hu)
  rwa [T.data_eqv] at q
/-- the first place whose items differ -/
theorem lex_lts : ∀ (xs ys : List T) (e r : Nat → Bool) (i : Nat), (∀ j (h1 : j < xs.length) (h2 : j < ys.length), e (i + j) = decide (xs[j] = ys[j]) ∧ r (i + j) = T.lt xs[j] ys[j]) →
    Ob.lexAt e r (decide (xs.length < ys.length)) i (min xs.length ys.length) = T.lts xs ys
  | [], [], _, _, _, _ => by simp [Ob.lexAt, T.lts, T.cmps]
  | [], _ :: _, _, _, _, _ => by simp [Ob.lexAt, T.lts, T.cmps]
  | _ :: _, [], _, _, _, _ => by simp [Ob.lexAt, T.lts, T.cmps]
  | x :: xs, y :: ys, e, r, i, h => by
    have e1 : min (x :: xs).length (y :: ys).length = min xs.length ys.length + 1 := by simp only [List.length_cons]; omega
    have e2 : decide ((x :: xs).length < (y :: ys).length) = decide (xs.length < ys.length) := by simp
    obtain ⟨h0, h0'⟩ := h 0 (by simp) (by simp)
    rw [e1, e2, Ob.lexAt_succ]
    have ih := lex_lts xs ys e r (i + 1) fun j h1 h2 => by
      have q := h (j + 1) (by simpa using h1) (by simpa using h2)
      have z : i + 1 + j = i + (j + 1) := by omega
      rw [z]
      simpa using q
    simp only [Nat.add_zero, List.getElem_cons_zero] at h0 h0'
    rw [h0, h0', ih]
    unfold T.lts T.lt
    rw [T.cmps]
    by_cases q : x = y
    · subst q; rw [T.cmp_self]; simp
    · have : T.cmp x y ≠ .eq := fun z => q (T.eq_of_cmp x y z)
      rw [decide_eq_false q]
      cases z : T.cmp x y
      · simp
      · exact absurd z this
      · simp
theorem lex_ges : ∀ (xs ys : List T) (e r : Nat → Bool) (i : Nat), (∀ j (h1 : j < xs.length) (h2 : j < ys.length), e (i + j) = decide (xs[j] = ys[j]) ∧ r (i + j) = !T.lt xs[j] ys[j]) →
    Ob.lexAt e r (decide (xs.length ≥ ys.length)) i (min xs.length ys.length) = !T.lts xs ys
  | [], [], _, _, _, _ => by simp [Ob.lexAt, T.lts, T.cmps]
  | [], _ :: _, _, _, _, _ => by simp [Ob.lexAt, T.lts, T.cmps]
  | _ :: _, [], _, _, _, _ => by simp [Ob.lexAt, T.lts, T.cmps]
  | x :: xs, y :: ys, e, r, i, h => by
    have e1 : min (x :: xs).length (y :: ys).length = min xs.length ys.length + 1 := by simp only [List.length_cons]; omega
    have e2 : decide ((x :: xs).length ≥ (y :: ys).length) = decide (xs.length ≥ ys.length) := by simp
    obtain ⟨h0, h0'⟩ := h 0 (by simp) (by simp)
    rw [e1, e2, Ob.lexAt_succ]
    have ih := lex_ges xs ys e r (i + 1) fun j h1 h2 => by
      have q := h (j + 1) (by simpa using h1) (by simpa using h2)
      have z : i + 1 + j = i + (j + 1) := by omega
      rw [z]
      simpa using q
    simp only [Nat.add_zero, List.getElem_cons_zero] at h0 h0'
    rw [h0, h0', ih]
    unfold T.lts T.lt
    rw [T.cmps]
    by_cases q : x = y
    · subst q; rw [T.cmp_self]; simp
    · have : T.cmp x y ≠ .eq := fun z => q (T.eq_of_cmp x y z)
      rw [decide_eq_false q]
      cases z : T.cmp x y
      · simp
      · exact absurd z this
      · simp
theorem min_in {u a b : Nat} (h : u + min (a + 1) (b + 1) < cLine) : u + 1 + min a b < cLine := SeqAt.room_in h
theorem min_mono {u a b c d : Nat} (h : u + min a b < cLine) (h1 : c ≤ a) (h2 : d ≤ b) : u + min c d < cLine := by
  have : min c d ≤ min a b := Nat.le_min.mpr ⟨Nat.le_trans (Nat.min_le_left _ _) h1, Nat.le_trans (Nat.min_le_right _ _) h2⟩
  omega
mutual
theorem rcLt_T : ∀ (x y : T) (A : Around) (s : Shared) (a b : Value), IsT s.heap x a → IsT s.heap y b → A.units + min x.depth y.depth < cLine → Ob.RcOp .Lt A s a b (T.lt x y)
  | .n xs, .n ys, A, s, _, _, h1, h2, hu => by
    cases h1 with
    | @n a o _ k vs a1 a2 a3 a4 =>
      cases h2 with
      | @n b o' _ k' ws b1 b2 b3 b4 =>
        have n1 := a4.len
        have n2 := b4.len
        simp only [Array.length_toList] at n1 n2
        rw [T.depth, T.depth] at hu
        have hlt : T.lt (.n xs) (.n ys) = T.lts xs ys := by unfold T.lt T.lts; rw [T.cmp]
        rw [hlt, ← lex_lts xs ys (fun j => decide (xs.getD j (.n []) = ys.getD j (.n []))) (fun j => T.lt (xs.getD j (.n [])) (ys.getD j (.n []))) 0 (fun j h1 h2 => by
          simp [List.getD_eq_getElem?_getD, List.getElem?_eq_getElem h1, List.getElem?_eq_getElem h2]), ← n1, ← n2]
        have hu1 : A.units < cLine := by omega
        refine Ob.RcOp.tuples_lt ⟨_, a1, a2, _, a3⟩ ⟨_, b1, b2, _, b3⟩ hu1 (fun j j1 j2 => ?_) (fun j j1 j2 _ => ?_)
        · have x1 : j < xs.length := by omega
          have x2 : j < ys.length := by omega
          have q := eqAt_T (A := A.in1) (a4.get (by simpa using j1) x1) (b4.get (by simpa using j2) x2) (min_mono (min_in hu) (T.depth_mem (List.getElem_mem x1)) (T.depth_mem (List.getElem_mem x2)))
          simp only [List.getD_eq_getElem?_getD, List.getElem?_eq_getElem x1, List.getElem?_eq_getElem x2, Option.getD_some]
          simpa using q
        · have x1 : j < xs.length := by omega
          have x2 : j < ys.length := by omega
          have q := rcLt_Ts xs ys A.in1 s vs.toList ws.toList a4 b4 (min_in hu) j (by simpa using j1) (by simpa using j2) x1 x2
          simp only [List.getD_eq_getElem?_getD, List.getElem?_eq_getElem x1, List.getElem?_eq_getElem x2, Option.getD_some]
          simpa using q
theorem rcLt_Ts : ∀ (xs ys : List T) (A : Around) (s : Shared) (vs ws : List Value), IsTs s.heap xs vs → IsTs s.heap ys ws → A.units + min (T.depths xs) (T.depths ys) < cLine →
    ∀ j (h1 : j < vs.length) (h2 : j < ws.length) (x1 : j < xs.length) (x2 : j < ys.length), Ob.RcOp .Lt A s vs[j] ws[j] (T.lt xs[j] ys[j])
  | [], _, _, _, _, _, _, _, _, j, _, _, x1, _ => absurd x1 (Nat.not_lt_zero _)
  | _ :: _, [], _, _, _, _, _, _, _, j, _, _, _, x2 => absurd x2 (Nat.not_lt_zero _)
  | x :: xs, y :: ys, A, s, _, _, ra, rb, hu, j, h1, h2, x1, x2 => by
    cases ra with
    | cons r rs =>
      cases rb with
      | cons r' rs' =>
        rw [T.depths, T.depths] at hu
        cases j with
        | zero => exact rcLt_T x y A s _ _ r r' (SeqAt.room_head hu)
        | succ j => exact rcLt_Ts xs ys A s _ _ rs rs' (SeqAt.room_tail hu) j (Nat.lt_of_succ_lt_succ h1) (Nat.lt_of_succ_lt_succ h2) (Nat.lt_of_succ_lt_succ x1) (Nat.lt_of_succ_lt_succ x2)
end
mutual
theorem rcGe_T : ∀ (x y : T) (A : Around) (s : Shared) (a b : Value), IsT s.heap x a → IsT s.heap y b → A.units + min x.depth y.depth < cLine → Ob.RcOp .GtE A s a b (!T.lt x y)
  | .n xs, .n ys, A, s, _, _, h1, h2, hu => by
    cases h1 with
    | @n a o _ k vs a1 a2 a3 a4 =>
      cases h2 with
      | @n b o' _ k' ws b1 b2 b3 b4 =>
        have n1 := a4.len
        have n2 := b4.len
        simp only [Array.length_toList] at n1 n2
        rw [T.depth, T.depth] at hu
        have hlt : T.lt (.n xs) (.n ys) = T.lts xs ys := by unfold T.lt T.lts; rw [T.cmp]
        rw [hlt, ← lex_ges xs ys (fun j => decide (xs.getD j (.n []) = ys.getD j (.n []))) (fun j => !T.lt (xs.getD j (.n [])) (ys.getD j (.n []))) 0 (fun j h1 h2 => by
          simp [List.getD_eq_getElem?_getD, List.getElem?_eq_getElem h1, List.getElem?_eq_getElem h2]), ← n1, ← n2]
        have hu1 : A.units < cLine := by omega
        refine Ob.RcOp.tuples_ge ⟨_, a1, a2, _, a3⟩ ⟨_, b1, b2, _, b3⟩ hu1 (fun j j1 j2 => ?_) (fun j j1 j2 _ => ?_)
        · have x1 : j < xs.length := by omega
          have x2 : j < ys.length := by omega
          have q := eqAt_T (A := A.in1) (a4.get (by simpa using j1) x1) (b4.get (by simpa using j2) x2) (min_mono (min_in hu) (T.depth_mem (List.getElem_mem x1)) (T.depth_mem (List.getElem_mem x2)))
          simp only [List.getD_eq_getElem?_getD, List.getElem?_eq_getElem x1, List.getElem?_eq_getElem x2, Option.getD_some]
          simpa using q
        · have x1 : j < xs.length := by omega
          have x2 : j < ys.length := by omega
          have q := rcGe_Ts xs ys A.in1 s vs.toList ws.toList a4 b4 (min_in hu) j (by simpa using j1) (by simpa using j2) x1 x2
          simp only [List.getD_eq_getElem?_getD, List.getElem?_eq_getElem x1, List.getElem?_eq_getElem x2, Option.getD_some]
          simpa using q
theorem rcGe_Ts : ∀ (xs ys : List T) (A : Around) (s : Shared) (vs ws : List Value), IsTs s.heap xs vs → IsTs s.heap ys ws → A.units + min (T.depths xs) (T.depths ys) < cLine →
    ∀ j (h1 : j < vs.length) (h2 : j < ws.length) (x1 : j < xs.length) (x2 : j < ys.length), Ob.RcOp .GtE A s vs[j] ws[j] (!T.lt xs[j] ys[j])
  | [], _, _, _, _, _, _, _, _, j, _, _, x1, _ => absurd x1 (Nat.not_lt_zero _)
  | _ :: _, [], _, _, _, _, _, _, _, j, _, _, _, x2 => absurd x2 (Nat.not_lt_zero _)
  | x :: xs, y :: ys, A, s, _, _, ra, rb, hu, j, h1, h2, x1, x2 => by
    cases ra with
    | cons r rs =>
      cases rb with
      | cons r' rs' =>
        rw [T.depths, T.depths] at hu
        cases j with
        | zero => exact rcGe_T x y A s _ _ r r' (SeqAt.room_head hu)
        | succ j => exact rcGe_Ts xs ys A s _ _ rs rs' (SeqAt.room_tail hu) j (Nat.lt_of_succ_lt_succ h1) (Nat.lt_of_succ_lt_succ h2) (Nat.lt_of_succ_lt_succ x1) (Nat.lt_of_succ_lt_succ x2)
end

/-! ### from the layer's values -/
section
variable {X : Cx} {pins : List (Addr × Obj)} {σ : L2.St} {H : Hp} {s : Shared}
mutual
theorem isT_of (I : Inv X pins σ H s) : ∀ (t : T) (v : V) (u : Value), Dp X.K H v t.data → RelV v u → IsT s.heap t u
  | .n ts, _, _, h, r => by
    rw [T.data] at h
    cases h with
    | tup hs ha =>
      cases r
      obtain ⟨its, rv, ⟨o, ho, hc, n, hd⟩, _⟩ := I.tuple hs
      exact .n ho hc hd (isTs_of I ts _ its ha rv)
theorem isTs_of (I : Inv X pins σ H s) : ∀ (ts : List T) (vs : List V) (us : List Value), DpAll X.K H vs (T.datas ts) → Vals vs us → IsTs s.heap ts us
  | [], _, _, h, r => by
    rw [T.datas] at h
    cases h
    cases r
    exact .nil
  | t :: ts, _, _, h, r => by
    rw [T.datas] at h
    cases h with
    | cons h1 h2 =>
      cases r with
      | cons r1 r2 => exact .cons (isT_of I t _ _ h1 r1) (isTs_of I ts _ _ h2 r2)
end
end
section
variable {X : Cx}
def rLtTr (K : PySem.W.Frag) : R2 := fun x y H Q => ∃ s t : T, Dp K H x s.data ∧ Dp K H y t.data ∧ min s.depth t.depth ≤ 60 ∧ Q (.bl (T.lt s t)) H
def rGeTr (K : PySem.W.Frag) : R2 := fun x y H Q => ∃ s t : T, Dp K H x s.data ∧ Dp K H y t.data ∧ min s.depth t.depth ≤ 60 ∧ Q (.bl (!T.lt s t)) H
theorem op_ltTr (hu : X.A.units + 64 < cLine) : OpR X (compareOp .Lt) (rLtTr X.K) := by
  intro pins s σ H x y v u Q I rx ry h
  obtain ⟨t1, t2, d1, d2, hd, q⟩ := h
  have R := rcLt_T t1 t2 X.A s v u (isT_of I t1 x v d1 rx) (isT_of I t2 y u d2 ry) (by omega)
  have z : wpAny (model X.prog X.w) X.A (compareOp .Lt v u) (EP X pins σ Q) X.xe s := R X.prog X.w X.xe (EP X pins σ Q) ⟨.bl _, H, I, rfl, q⟩
  exact z
theorem op_geTr (hu : X.A.units + 64 < cLine) : OpR X (compareOp .GtE) (rGeTr X.K) := by
  intro pins s σ H x y v u Q I rx ry h
  obtain ⟨t1, t2, d1, d2, hd, q⟩ := h
  have R := rcGe_T t1 t2 X.A s v u (isT_of I t1 x v d1 rx) (isT_of I t2 y u d2 ry) (by omega)
  have z : wpAny (model X.prog X.w) X.A (compareOp .GtE v u) (EP X pins σ Q) X.xe s := R X.prog X.w X.xe (EP X pins σ Q) ⟨.bl _, H, I, rfl, q⟩
  exact z
end
section
variable {K : PySem.W.Frag}
theorem rd_ltTr {s t : T} (h : min s.depth t.depth ≤ 60) : RD K (rLtTr K) s.data t.data (.bool (T.lt s t)) := fun H Hm x y e hx hy Q q => ⟨s, t, hx.mono e, hy.mono e, h, q _ H Hm (Gr.refl e) (.bl _)⟩
theorem rd_geTr {s t : T} (h : min s.depth t.depth ≤ 60) : RD K (rGeTr K) s.data t.data (.bool (!T.lt s t)) := fun H Hm x y e hx hy Q q => ⟨s, t, hx.mono e, hy.mono e, h, q _ H Hm (Gr.refl e) (.bl _)⟩
end

/-! ### sorted -/
open Classical in
noncomputable def tOf (h : Heap) (v : Value) : T := if x : ∃ t, IsT h t v then x.choose else .n []
theorem tOf_eq {h : Heap} {t : T} {v : Value} (x : IsT h t v) : tOf h v = t := by
  unfold tOf
  rw [dif_pos ⟨t, x⟩]
  exact IsT.inj _ _ _ (Exists.choose_spec (⟨t, x⟩ : ∃ t, IsT h t v)) x
section
variable {prog : Program} {w : World} {A : Around} {E : Value → Shared → Prop} {s : Shared}
theorem kat_T {Q : Bool → Shared → Prop} {fin : Bool} : ∀ (xs ys : List T) (us ws : List Value) (i : Nat), IsTs s.heap xs us → IsTs s.heap ys ws → A.units + min (T.depths xs) (T.depths ys) < cLine → fin = decide (us.length < ws.length) → Q (T.lts xs ys) s →
    PySem.W.KatLex prog w A false fin Q (us.zip ws) i s
  | [], [], _, _, i, h1, h2, _, hf, q => by
    cases h1; cases h2
    rw [hf]
    exact PySem.W.kat_nil (by simpa [T.lts, T.cmps] using q)
  | [], _ :: _, _, _, i, h1, h2, _, hf, q => by
    cases h1; cases h2
    rw [hf]
    exact PySem.W.kat_nil (by simpa [T.lts, T.cmps] using q)
  | _ :: _, [], _, _, i, h1, h2, _, hf, q => by
    cases h1; cases h2
    rw [hf]
    exact PySem.W.kat_nil (by simpa [T.lts, T.cmps] using q)
  | x :: xs, y :: ys, _, _, i, h1, h2, hu, hf, q => by
    cases h1 with
    | cons a1 a2 =>
      cases h2 with
      | cons b1 b2 =>
        rw [T.depths, T.depths] at hu
        refine PySem.W.kat_cons (eqAt_T a1 b1 (SeqAt.room_head hu) prog w _ _ ?_)
        refine PySem.W.kat_go (fun e => ?_) (fun e => ?_)
        · have exy : x = y := by simpa using e
          subst exy
          refine PySem.W.kat_yes (kat_T xs ys _ _ (i + 1) a2 b2 (SeqAt.room_tail hu) (by rw [hf]; simp) ?_)
          have : T.lts (x :: xs) (x :: ys) = T.lts xs ys := by unfold T.lts; rw [T.cmps, T.cmp_self]
          rw [← this]; exact q
        · have nxy : x ≠ y := by simpa using e
          refine PySem.W.kat_no (PySem.W.kat_one _ _ ?_)
          have : T.lts (x :: xs) (y :: ys) = T.lt x y := by
            unfold T.lts T.lt
            rw [T.cmps]
            cases z : T.cmp x y
            · rfl
            · exact absurd (T.eq_of_cmp x y z) nxy
            · rfl
          have R := rcLt_T x y A s _ _ a1 b1 (SeqAt.room_head hu)
          have z : wpAny (model prog w) A (compareOp .Lt _ _) (PySem.W.BoolBack Q) (fun _ _ => False) s := R prog w _ _ (show Q (T.lt x y) s by rw [← this]; exact q)
          exact z
theorem swo_T (h : Heap) : SrtO.Swo fun v u => T.lt (tOf h v) (tOf h u) := ⟨fun x y e => T.lt_asym e, fun x y z h1 h2 => T.nlt_trans h1 h2⟩
/-- games, and whatever tuples are not empty -/
def full : T → Bool
  | .n [] => false
  | .n (_ :: _) => true
theorem firsts_T {h : Heap} : ∀ {ts : List T} {vs : List Value}, IsTs h ts vs → (∀ t ∈ ts, full t = true) → ∃ fs : List Value, PySem.W.KatTups h vs fs ∧ fs.length = vs.length ∧ ∀ f ∈ fs, ∃ a o, f = Value.ref a ∧ h.get? a = some o ∧ o.cls = .type "tuple"
  | _, _, .nil, _ => ⟨[], PySem.W.KatTups.nil, rfl, fun _ hm => by simp at hm⟩
  | t :: ts, v :: vs, .cons x r, hf => by
    obtain ⟨fs, h1, h2, h3⟩ := firsts_T r fun t ht => hf t (List.mem_cons_of_mem _ ht)
    have hft := hf t List.mem_cons_self
    cases x with
    | @n a o us k ws ho hc hd ha =>
      cases us with
      | nil => simp [full] at hft
      | cons u us =>
        generalize e : ws.toList = wl at ha
        cases ha with
        | @cons _ f _ wr hu hr =>
          have hf0 : ws[0]? = some f := by rw [← Array.getElem?_toList, e]; rfl
          refine ⟨f :: fs, PySem.W.KatTups.cons ho hc hd hf0 h1, by rw [List.length_cons, List.length_cons, h2], fun g hg => ?_⟩
          rcases List.mem_cons.mp hg with rfl | hg
          · cases hu with
            | n k1 k2 k3 k4 => exact ⟨_, _, rfl, k1, k2⟩
          · exact h3 g hg
theorem isTs_all {h : Heap} : ∀ {ts : List T} {vs : List Value}, IsTs h ts vs → ∀ v ∈ vs, ∃ t ∈ ts, IsT h t v
  | _, _, .nil, v, hv => by simp at hv
  | _, _, .cons x r, v, hv => by
    rcases List.mem_cons.mp hv with rfl | hv
    · exact ⟨_, List.mem_cons_self, x⟩
    · obtain ⟨t, h1, h2⟩ := isTs_all r v hv
      exact ⟨t, List.mem_cons_of_mem _ h1, h2⟩
theorem sortable_T {a : Addr} {ts : List T} {vs : List Value} (h0 : 0 < vs.length) (x : IsTs s.heap ts vs) (hf : ∀ t ∈ ts, full t = true) (hd : T.depths ts ≤ 60) (hu : A.units + 62 < cLine) (g : Heap) (hg : ∀ v ∈ vs, tOf g v = tOf s.heap v) (ha : ∀ o, s.heap.get? a = some o → o.cls ≠ .type "tuple") :
    SrtO.SortableO prog w A s a vs fun v u => T.lt (tOf g v) (tOf g u) := by
  intro h' keep
  have keep' : ∀ b o, s.heap.get? b = some o → o.cls = .type "tuple" → h'.get? b = some o := fun b o e c => keep b o (fun z => by subst z; exact ha o e c) e
  have x' : IsTs h' ts vs := x.keep keep' ts vs
  obtain ⟨fs, h1, h2, h3⟩ := firsts_T x' hf
  refine ⟨tuples' false, fun Q E hq => ?_, fun p q hp hq => ?_⟩
  · refine PySem.W.kat_kind (T := .type "tuple") h1 (by omega) (fun f hm => ?_) (by rfl) ?_
    · obtain ⟨b, o, rfl, ho, hc⟩ := h3 f hm
      rw [← hc]
      exact (show PySem.W.Looks (model prog w) h' (typeOf (.ref b)) o.cls from (PySem.W.Looks.ld ho).andThen .now)
    · have e : (Value.type "tuple" != Value.type "tuple") = false := by first | decide +kernel | rfl | decide
      rw [e]
      exact hq
  · obtain ⟨t1, m1, y1⟩ := isTs_all x' _ hp
    obtain ⟨t2, m2, y2⟩ := isTs_all x' _ hq
    obtain ⟨t1', _, z1⟩ := isTs_all x _ hp
    obtain ⟨t2', _, z2⟩ := isTs_all x _ hq
    have e1 : tOf g p.1 = t1 := by rw [hg _ hp, tOf_eq z1]; exact IsT.inj _ _ _ (z1.keep keep' _ _) y1
    have e2 : tOf g q.1 = t2 := by rw [hg _ hq, tOf_eq z2]; exact IsT.inj _ _ _ (z2.keep keep' _ _) y2
    have d1 := T.depth_mem m1
    have d2 := T.depth_mem m2
    show wpAny (model prog w) A (keyLt' (tuples' false) p.1 q.1) (fun r s' => s' = { s with heap := h' } ∧ r = T.lt (tOf g p.1) (tOf g q.1)) (fun _ _ => False) { s with heap := h' }
    rw [e1, e2]
    generalize p.1 = pv at y1
    generalize q.1 = qv at y2
    cases y1 with
    | @n pa po pts pk pvs p1 p2 p3 p4 =>
      cases y2 with
      | @n qa qo qts qk qvs q1 q2 q3 q4 =>
        rw [T.depth] at d1 d2
        refine PySem.W.kat_lt p1 p3 q1 q3 ?_
        refine kat_T (s := { s with heap := h' }) pts qts _ _ 0 p4 q4 (by have := Nat.min_le_left (T.depths pts) (T.depths qts); omega) (by simp) ⟨rfl, ?_⟩
        unfold T.lts T.lt
        rw [T.cmp]
end
end LM

set_option Elab.async false
set_option linter.all false
set_option maxRecDepth 100000
/-! Lm5: sorted(a list of T). -/
namespace LM
open PySem PySem.Spec PyProof.Rows L2 Evl
theorem hu100 {A : Around} {k : Nat} (hr : Room k A) : A.units + 100 < cLine := by have := hr.un; omega
theorem hu64 {A : Around} {k : Nat} (hr : Room k A) : A.units + 64 < cLine := by have := hr.un; omega
def rSortTr (K : PySem.W.Frag) : List V → Hp → VK → Prop := fun vs H Q => ∃ (a : Addr) (xs : List V) (ts : List T), vs = [.ref a] ∧ SqL K H a xs ∧ DpAll K H xs (ts.map T.data) ∧ (∀ t ∈ ts, full t = true) ∧ T.depths ts ≤ 60 ∧
  ∀ ys p, H p = none → (∀ Hm, Ex Hm H → DpAll K Hm xs (ts.map T.data) → DpAll K Hm ys ((T.sort ts).map T.data)) → Q (.ref p) (upd H p (.lst ys))
theorem dpT_ref {K : PySem.W.Frag} {H : Hp} {v : V} {t : T} (h : Dp K H v t.data) : ∃ a, v = .ref a := by
  cases t with
  | n ts =>
    rw [T.data] at h
    obtain ⟨a, _, e, _⟩ := dp_tup h
    exact ⟨a, e⟩
theorem dpsT_all {K : PySem.W.Frag} {H : Hp} : ∀ {vs : List V} {ts : List T}, DpAll K H vs (ts.map T.data) → ∀ v ∈ vs, ∃ t ∈ ts, Dp K H v t.data
  | _, [], h, v, hv => by cases h; simp at hv
  | _, t :: ts, h, v, hv => by
    rw [List.map_cons] at h
    cases h with
    | cons h1 h2 =>
      rcases List.mem_cons.mp hv with rfl | hv
      · exact ⟨t, List.mem_cons_self, h1⟩
      · obtain ⟨u, hu, d⟩ := dpsT_all h2 v hv
        exact ⟨u, List.mem_cons_of_mem _ hu, d⟩
theorem dps_map {K : PySem.W.Frag} {H : Hp} {α : Type} {f : α → V} {g : α → D} : ∀ {l : List α}, (∀ x ∈ l, Dp K H (f x) (g x)) → DpAll K H (l.map f) (l.map g)
  | [], _ => .nil
  | x :: l, h => .cons (h x List.mem_cons_self) (dps_map fun y hy => h y (List.mem_cons_of_mem _ hy))
theorem tOfs {h : Heap} : ∀ {ts : List T} {vs : List Value}, IsTs h ts vs → vs.map (tOf h) = ts
  | _, _, .nil => rfl
  | _, _, .cons x r => by rw [List.map_cons, tOf_eq x, tOfs r]
section
variable {X : Cx}
theorem back_rel {v : Value} {x : V} {a : Addr} (r : RelV x v) (e : x = .ref a) : v = .ref a ∧ backV v = x := by
  subst e
  cases r
  exact ⟨rfl, rfl⟩
/-- what sorted leaves, told by data -/
theorem sorted_out {pins : List (Addr × Obj)} {σ : L2.St} {H : Hp} {s : Shared} {xs : List V} {its out : List Value} {ts : List T} (I : Inv X pins σ H s) (hd : DpAll X.K H xs (ts.map T.data)) (rv : Vals xs its)
    (h1 : SrtO.Srtd (fun v u => T.lt (tOf s.heap v) (tOf s.heap u)) out) (h2 : out.Perm its) : Vals (out.map backV) out ∧ ∀ Hm, Ex Hm H → DpAll X.K Hm xs (ts.map T.data) → DpAll X.K Hm (out.map backV) ((T.sort ts).map T.data) := by
  have x : IsTs s.heap ts its := isTs_of I ts xs its (by rw [T.datas_eq]; exact hd) rv
  obtain ⟨e1, e2⟩ := refs_back rv fun v hv => by
    obtain ⟨t, _, d⟩ := dpsT_all hd v hv
    exact dpT_ref d
  have hr : ∀ u ∈ out, ∃ a, u = Value.ref a := fun u hu => e2 u (h2.mem_iff.mp hu)
  refine ⟨vals_back hr, fun Hm em hdm => ?_⟩
  have hs : T.Srt (out.map (tOf s.heap)) := List.pairwise_map.mpr (h1.imp fun {a b} h => h)
  have hp : (out.map (tOf s.heap)).Perm ts := by
    have := h2.map (tOf s.heap)
    rwa [tOfs x] at this
  rw [← T.sort_of hs hp, List.map_map]
  refine dps_map fun u hu => ?_
  have hm := h2.mem_iff.mp hu
  have hx : backV u ∈ xs := by rw [e1]; exact List.mem_map.mpr ⟨u, hm, rfl⟩
  obtain ⟨t, ht, d⟩ := dpsT_all hdm _ hx
  obtain ⟨a, rfl⟩ := hr u hu
  have y := isT_of I t _ _ (d.mono em) (show RelV (.ref a) (.ref a) from rfl)
  show Dp X.K Hm _ (T.data (tOf s.heap _))
  rw [tOf_eq y]
  exact d
theorem cr_sortedTr (hu : X.A.units + 100 < cLine) : CallR X (.builtin "sorted") (rSortTr X.K) := by
  intro pins s σ H vs us Q I r h
  obtain ⟨a, xs, ts, rfl, hs, hd, hf, hdep, q⟩ := h
  obtain ⟨its, rv, hl, hz⟩ := I.list hs
  obtain ⟨u, rfl, ru⟩ := vals1 r
  obtain rfl : u = Value.ref a := ru
  have x : IsTs s.heap ts its := isTs_of I ts xs its (by rw [T.datas_eq]; exact hd) rv
  have hzi : its.length ≤ sizeLine := by rw [← rv.length]; exact hz
  refine SrtO.sorted_ord (swo_T s.heap) hl.isList hzi (fun h2 h₁ b hb kk => ?_) fun out h1 h2 => ?_
  · refine sortable_T (s := { s with heap := h₁ }) (by omega) (x.keep (fun c o e _ => (kk c o e).2) ts its) hf hdep (by show X.A.units + 1 + 1 + 62 < cLine; omega) s.heap (fun v hv => ?_) fun o e => ?_
    · obtain ⟨t, _, y⟩ := isTs_all x v hv
      rw [tOf_eq y]
      exact (tOf_eq (y.keep (fun c o e _ => (kk c o e).2) _ _)).symm
    · have e' : some o = some (seqObj "list" its.toArray 0) := e.symm.trans hb
      cases e'
      intro c
      exact absurd (Value.type.inj c) (by decide)
  · obtain ⟨v1, d1⟩ := sorted_out I hd rv h1 h2.perm
    obtain ⟨n, hn⟩ := sortedAll_at s.heap its out.toArray
    have hdz : s.heap.objs.size ≤ s.heap.objs.size + 1 := Nat.le_succ _
    refine ⟨.ref (s.heap.objs.size + 1), upd H _ (.lst (out.map backV)), I.laid (t' := s.toks) (fun b o e => sortedAll_old e) hdz ⟨?_, out, n, v1, hn⟩, rfl, q _ _ (I.hok.fresh hdz) d1⟩
    rw [List.length_map, h2.len]
    exact hzi
end
section
variable {K : PySem.W.Frag}
theorem cl_sortedTr {ts : List T} (hf : ∀ t ∈ ts, full t = true) (hd : T.depths ts ≤ 60) : CL K (rSortTr K) [.list (ts.map T.data)] ((T.sort ts).map T.data) := fun H Hm xs s hx Q q => by
  obtain ⟨v, rfl, h⟩ := dps1 hx
  obtain ⟨a, ys, rfl, hs, ha⟩ := dp_lst h
  refine ⟨a, ys, ts, rfl, ex_l s hs, ha.mono s, hf, hd, fun zs p hp hz => ?_⟩
  exact q p zs _ Hm (Gr.priv s hp) hp (fresh_back s hp) upd_same (hz Hm s ha)
end
end LM

set_option Elab.async false
set_option linter.all false
set_option maxRecDepth 100000
set_option maxHeartbeats 1000000
/-! Lm6: operators whose operands are of several kinds, told as one reading each; zip; join; extend. -/
namespace LM
open PySem PySem.Spec PyProof.Rows L2 Evl
abbrev orR (r r' : R2) : R2 := fun x y H Q => r x y H Q ∨ r' x y H Q
section
variable {K : PySem.W.Frag} {r r' : R2} {a b c : D} {cs : List D}
theorem rd_l (h : RD K r a b c) : RD K (orR r r') a b c := fun H Hm x y s hx hy Q q => .inl (h H Hm x y s hx hy Q q)
theorem rd_r (h : RD K r' a b c) : RD K (orR r r') a b c := fun H Hm x y s hx hy Q q => .inr (h H Hm x y s hx hy Q q)
theorem rl_l (h : RL K r a b cs) : RL K (orR r r') a b cs := fun H Hm x y s hx hy Q q => .inl (h H Hm x y s hx hy Q q)
theorem rl_r (h : RL K r' a b cs) : RL K (orR r r') a b cs := fun H Hm x y s hx hy Q q => .inr (h H Hm x y s hx hy Q q)
theorem rd_rl (h : RL K r a b cs) : RD K r a b (.list cs) := fun H Hm x y s hx hy Q q =>
  h H Hm x y s hx hy Q fun p vs H2 Hm2 g hp hm h2 hd => q _ H2 _ (g.show hp hm h2) (.lst (.inl (.inl upd_same)) (hd.mono (Ex.new hm)))
end

/-! ### + -/
section
variable {X : Cx}
/-- list + list, of any lists -/
def rCatL (K : PySem.W.Frag) : R2 := fun x y H Q => ∃ a b xs ys, x = .ref a ∧ y = .ref b ∧ SqL K H a xs ∧ SqL K H b ys ∧ xs.length + ys.length ≤ sizeLine ∧ ∀ p, H p = none → Q (.ref p) (upd H p (.lst (xs ++ ys)))
theorem op_catL : OpR X (binaryOp .Add) (rCatL X.K) := by
  intro pins s σ H x y v u Q I rx ry ⟨a, b, xs, ys, ex, ey, ha, hb, hz, q⟩
  subst ex ey
  cases rx
  cases ry
  obtain ⟨i1, r1, p1, _⟩ := I.list ha
  obtain ⟨i2, r2, p2, _⟩ := I.list hb
  obtain ⟨⟨k1, e1, t1, l1⟩, w1, z1, n1, m1⟩ := p1.isList
  obtain ⟨⟨k2, e2, t2, l2⟩, w2, z2, n2, m2⟩ := p2.isList
  simp only at z1 m1 z2 m2
  subst z1 m1 z2 m2
  have hsz : i1.toArray.size + i2.toArray.size ≤ sizeLine := by
    rw [List.size_toArray, List.size_toArray, ← r1.length, ← r2.length]; exact hz
  refine concat_meets ⟨_, w1, rfl⟩ ⟨_, w2, rfl⟩ noFill_list_add seq_list_add PySem.F.slot_list_add PySem.F.entry_list_add (PySem.F.args_list_add_2 _ _) (list_addW a b _ _ _ _ _ _ _ _ hsz) ⟨w1, w2, ?_⟩
  have ea : i1.toArray ++ i2.toArray = (i1 ++ i2).toArray := by simp
  rw [ea]
  exact ⟨.ref _, _, I.lnew (t' := s.toks) (r1.append r2) (by rw [List.length_append]; exact hz), rfl, q _ I.fresh⟩
abbrev rCatS : R2 := fun x y H Q => ∃ i j, x = .str i ∧ y = .str j ∧ i.length + j.length ≤ sizeLine ∧ Q (.str (i ++ j)) H
abbrev rAddI : R2 := rI0 fun i j => .int (i + j)
abbrev rAddU (K : PySem.W.Frag) : R2 := orR rAddI (orR (rCatA K) (orR rCatS (rCatL K)))
theorem op_addU : OpR X (binaryOp .Add) (rAddU X.K) := op_add.or (op_catA.or (op_add_str.or op_catL))
end
section
variable {K : PySem.W.Frag}
theorem rl_catL {xs ys : List D} (hz : xs.length + ys.length ≤ 100000) : RL K (rCatL K) (.list xs) (.list ys) (xs ++ ys) := fun H Hm x y s hx hy Q q => by
  obtain ⟨a, vs, rfl, hs, ha⟩ := dp_lst hx
  obtain ⟨b, ws, rfl, ht, hb⟩ := dp_lst hy
  exact ⟨a, b, vs, ws, rfl, rfl, ex_l s hs, ex_l s ht, sz_of (by rw [ha.len, hb.len]; exact hz), fun p hp => q p _ _ Hm (Gr.priv s hp) hp (fresh_back s hp) upd_same (ha.app hb)⟩
theorem rd_catS {i j : Str} (hz : i.length + j.length ≤ 1000000) : RD K rCatS (.str i) (.str j) (.str (i ++ j)) := fun H Hm x y s hx hy Q q =>
  ⟨i, j, dp_str hx, dp_str hy, Nat.le_trans hz (by decide), q _ H Hm (Gr.refl s) (.str _)⟩
theorem rd_addI {i j : Int} : RD K (rAddU K) (.int i) (.int j) (.int (i + j)) := rd_l rd_add
theorem rd_addT {xs ys : List D} (hz : xs.length + ys.length ≤ 100000) : RD K (rAddU K) (.tuple xs) (.tuple ys) (.tuple (xs ++ ys)) := rd_r (rd_l (rd_catT hz))
theorem rd_addS {i j : Str} (hz : i.length + j.length ≤ 1000000) : RD K (rAddU K) (.str i) (.str j) (.str (i ++ j)) := rd_r (rd_r (rd_l (rd_catS hz)))
theorem rl_addL {xs ys : List D} (hz : xs.length + ys.length ≤ 100000) : RL K (rAddU K) (.list xs) (.list ys) (xs ++ ys) := rl_r (rl_r (rl_r (rl_catL hz)))
end

/-! ### * -/
section
variable {X : Cx}
/-- the empty tuple times an int -/
def rRepE (K : PySem.W.Frag) : R2 := fun x y H Q => ∃ l k, x = .ref l ∧ y = .int k ∧ SqT K H l [] ∧ 2 ≤ k ∧ k ≤ 1000 ∧ Q (.ref l) H
theorem tuple_mulE (l : Addr) (items : Array Value) (n : Nat) (dd : Option Addr) (sl : Array (Option Value)) (x : Int) (u : Tok) (c0 : (decide (x < -(2 ^ 63)) || decide (x ≥ 2 ^ 63)) = false) (c1 : (items.isEmpty || x == 1) = true) :
    Meets (Builtin.«tuple.__mul__» ⟨[.ref l, .int x u], []⟩) (fun _ R s => s.heap.get? l = some { cls := .type "tuple", dict := dd, data := .seq items n, slots := sl } ∧ R (.ok (.ret (Value.ref l))) s) :=
  .of_wp fun prog w A R s h => by
    obtain ⟨hp, g, d, tk, os⟩ := s
    obtain ⟨hl, h⟩ := h
    have f1 := AutoSeq1.idx_int
    have f2 := AutoSeq1.sub_tuple_tuple
    wp_walk using wpAny_loadPart' hl
    repeat (first
      | (refine wpAny_ite_false (decide_eq_false (by rw [c0]; exact Bool.false_ne_true)) ?_; wp_walk using wpAny_loadPart' hl)
      | (refine wpAny_ite_true (decide_eq_true c1) ?_; wp_walk using wpAny_loadPart' hl))
    exact ⟨_, rfl, h⟩
theorem op_repE : OpR X (binaryOp .Mult) (rRepE X.K) := by
  intro pins s σ H x y v u Q I rx ry ⟨l, k, ex, ey, hT, h1, h2, q⟩
  subst ex ey
  cases rx
  obtain ⟨t, rfl⟩ := ry
  obtain ⟨its, r, ⟨⟨cls, dd, data, sl⟩, ho, hc, n, hd⟩, hs⟩ := I.tuple hT
  simp only at hc hd
  subst hc hd
  cases r
  have c0 : (decide (k < -(2 ^ 63)) || decide (k ≥ 2 ^ 63)) = false := by
    rw [decide_eq_false (by omega), decide_eq_false (by omega)] <;> rfl
  refine wpAny_binaryOp_repeat_ref (T := "tuple") (U := "int") (by decide) ⟨_, ho, rfl⟩ (fun s' => typeIs_int s' k t) noFill_tuple_mul F.fills_int_mul F.slot_int_rmul repeat_tuple F.slot_int_index.lookup
    (call_meets F.slot_int_rmul (typeIs_int s k t) F.entry_int_rmul (F.args_int_rmul_2 _ _) (int_rmul_tuple k t l _ n dd sl)
      ⟨ho, rfl, ⟨_, ho, rfl⟩, call_meets F.slot_tuple_mul ⟨_, ho, rfl⟩ F.entry_tuple_mul (F.args_tuple_mul_2 _ _) (tuple_mulE l _ n dd sl k t c0 rfl) ⟨ho, ⟨.ref l, H, I, rfl, q⟩⟩⟩)
abbrev rMulI : R2 := rI CMul fun i j => .int (i * j)
abbrev rMulU (K : PySem.W.Frag) : R2 := orR rMulI (orR (rRepT K) (rRepE K))
theorem op_mulU : OpR X (binaryOp .Mult) (rMulU X.K) := op_mul.or (op_repT.or op_repE)
end
section
variable {K : PySem.W.Frag}
theorem rd_mulI {i j : Int} (h : CMul i j) : RD K (rMulU K) (.int i) (.int j) (.int (i * j)) := rd_l (rd_mul h)
theorem dps_flat {H : Hp} {vs : List V} {ds : List D} (h : DpAll K H vs ds) : ∀ k : Nat, DpAll K H (List.replicate k vs).flatten (List.replicate k ds).flatten
  | 0 => .nil
  | k + 1 => by
    show DpAll K H (vs ++ (List.replicate k vs).flatten) (ds ++ (List.replicate k ds).flatten)
    exact h.app (dps_flat h k)
theorem flat_nil {α : Type} : ∀ k : Nat, (List.replicate k ([] : List α)).flatten = []
  | 0 => rfl
  | k + 1 => by
    show [] ++ (List.replicate k ([] : List α)).flatten = []
    rw [flat_nil k]; rfl
theorem rd_mulT {xs : List D} {k : Int} (h1 : 2 ≤ k) (h2 : k ≤ 1000) (hz : xs.length ≤ 1000) : RD K (rMulU K) (.tuple xs) (.int k) (.tuple (List.replicate k.toNat xs).flatten) := fun H Hm x y s hx hy Q q => by
  obtain ⟨a, vs, rfl, hs, ha⟩ := dp_tup hx
  have hy' := dp_int hy
  subst hy'
  cases xs with
  | nil =>
    cases ha
    refine .inr (.inr ⟨a, k, rfl, rfl, ex_t s hs, h1, h2, ?_⟩)
    rw [flat_nil] at q
    exact q _ H Hm (Gr.refl s) (.tup hs .nil)
  | cons d ds =>
    refine .inr (.inl ⟨a, k, vs, rfl, rfl, ex_t s hs, ?_, h1, h2, by rw [ha.len]; exact hz, fun p hp => ?_⟩)
    · intro e
      have := ha.len
      rw [e] at this
      cases this
    · exact q _ _ _ (Gr.new s hp) (.tup (.inl (.inl upd_same)) (dps_flat (ha.mono (Ex.new (fresh_back s hp))) _))
end

/-! ### x[i] of any -/
section
variable {K : PySem.W.Frag}
theorem rd_ixUL {ds : List D} {i : Int} {d : D} (h : atI ds i = some d) : RD K (rIx K) (.list ds) (.int i) d := fun H Hm x y s hx hy Q q => .inl (rd_ixL h H Hm x y s hx hy Q q)
theorem rd_ixUT {ds : List D} {i : Int} {d : D} (h : atI ds i = some d) : RD K (rIx K) (.tuple ds) (.int i) d := fun H Hm x y s hx hy Q q => .inr (.inl (rd_ixT h H Hm x y s hx hy Q q))
end

/-! ### x[lo:hi] of any -/
abbrev rSlU (K : PySem.W.Frag) : V → Option Int → Option Int → Hp → VK → Prop := fun x lo hi H Q => rSlA K x lo hi H Q ∨ rSlL K x lo hi H Q ∨ C8.rSlX x lo hi H Q
theorem sl_u {X : Cx} : SlR X (rSlU X.K) := sl_tupA.or (sl_list.or C8.sl_txt)
section
variable {K : PySem.W.Frag} {ρ : Rho} {te : TE} {tl th : TO} {lo hi : Option Int} {ds : List D}
theorem ed_slUT (h : ED K te ρ (.tuple ds)) (h1 : EO K tl ρ lo) (h2 : EO K th ρ hi) : ED K (tSl (rSlU K) te tl th) ρ (.tuple (cut ds lo hi)) := fun σ H Hm s l hs Q q => by
  have := ed_slT h h1 h2 σ H Hm s l hs Q q
  exact h σ H Hm s l hs _ fun v H1 Hm1 g1 d1 => h1 σ H1 Hm1 g1.sub l (hs.mono g1.em) _ fun H2 Hm2 g2 => h2 σ H2 Hm2 g2.sub l (hs.mono (g1.em.trans g2.em)) _ fun H3 Hm3 g3 => by
    obtain ⟨a, xs, rfl, hx, ha⟩ := dp_tup d1
    have g23 := g2.trans g3
    refine .inl ⟨a, xs, rfl, ex_t g3.sub (ex_t g23.em hx), fun e => ?_, fun _ p hp => ?_⟩
    · have e' : cut ds lo hi = ds := by
        unfold cut
        rw [← ha.len]
        rw [e.1, e.2, ha.len, List.drop_zero, Nat.sub_zero, List.take_length]
      rw [e'] at q
      exact q _ H3 Hm3 (g1.trans g23) (.tup (ex_t g23.em hx) (ha.mono g23.em))
    · exact q _ _ _ ((g1.trans g23).trans (Gr.new g3.sub hp)) (.tup (.inl (.inl upd_same)) (((cut_dp ha).mono g23.em).mono (Ex.new (fresh_back g3.sub hp))))
theorem el_slUL (h : ED K te ρ (.list ds)) (h1 : EO K tl ρ lo) (h2 : EO K th ρ hi) : EL K (tSl (rSlU K) te tl th) ρ (cut ds lo hi) := fun σ H Hm s l hs Q q =>
  h σ H Hm s l hs _ fun v H1 Hm1 g1 d1 => h1 σ H1 Hm1 g1.sub l (hs.mono g1.em) _ fun H2 Hm2 g2 => h2 σ H2 Hm2 g2.sub l (hs.mono (g1.em.trans g2.em)) _ fun H3 Hm3 g3 => by
    obtain ⟨a, xs, rfl, hx, ha⟩ := dp_lst d1
    have g23 := g2.trans g3
    exact .inr (.inl ⟨a, xs, rfl, ex_l g3.sub (ex_l g23.em hx), fun p hp => q p _ _ Hm3 ((g1.trans g23).trans (Gr.priv g3.sub hp)) (fresh_back (g1.ex.trans g23.ex) hp) (fresh_back g3.sub hp) upd_same ((cut_dp ha).mono g23.em)⟩)
theorem ed_slUS {z : Str} (h : ED K te ρ (.str z)) (h1 : EO K tl ρ lo) (h2 : EO K th ρ hi) (hz : z.length ≤ 1000000) : ED K (tSl (rSlU K) te tl th) ρ (.str (Txt.slice z lo hi)) := fun σ H Hm s l hs Q q =>
  h σ H Hm s l hs _ fun v H1 Hm1 g1 d1 => h1 σ H1 Hm1 g1.sub l (hs.mono g1.em) _ fun H2 Hm2 g2 => h2 σ H2 Hm2 g2.sub l (hs.mono (g1.em.trans g2.em)) _ fun H3 Hm3 g3 =>
    .inr (.inr ⟨z, dp_str d1, Nat.le_trans hz (by decide), q _ H3 Hm3 ((g1.trans g2).trans g3) (.str _)⟩)
end

/-! ### < and >= of ints, of trees -/
abbrev rLtI : R2 := rI0 fun i j => .bl (decide (i < j))
abbrev rGeI : R2 := rI0 fun i j => .bl (decide (j ≤ i))
abbrev rLtU (K : PySem.W.Frag) : R2 := orR rLtI (rLtTr K)
abbrev rGeU (K : PySem.W.Frag) : R2 := orR rGeI (rGeTr K)
section
variable {X : Cx}
theorem op_ltU (hu : X.A.units + 64 < cLine) : OpR X (compareOp .Lt) (rLtU X.K) := op_lt.or (op_ltTr hu)
theorem op_geU (hu : X.A.units + 64 < cLine) : OpR X (compareOp .GtE) (rGeU X.K) := op_ge.or (op_geTr hu)
end
section
variable {K : PySem.W.Frag}
theorem rd_ltI {i j : Int} : RD K (rLtU K) (.int i) (.int j) (.bool (decide (i < j))) := rd_l (rd_I0 (g' := fun i j => .bool (decide (i < j))) fun _ => .bl _)
theorem rd_geI {i j : Int} : RD K (rGeU K) (.int i) (.int j) (.bool (decide (j ≤ i))) := rd_l (rd_I0 (g' := fun i j => .bool (decide (j ≤ i))) fun _ => .bl _)
theorem rd_gtI {i j : Int} : RD K (rI0 fun i j => .bl (decide (j < i))) (.int i) (.int j) (.bool (decide (j < i))) := rd_I0 (g' := fun i j => .bool (decide (j < i))) fun _ => .bl _
theorem rd_ltT {s t : T} (h : min s.depth t.depth ≤ 60) : RD K (rLtU K) s.data t.data (.bool (T.lt s t)) := rd_r (rd_ltTr h)
theorem rd_geT {s t : T} (h : min s.depth t.depth ≤ 60) : RD K (rGeU K) s.data t.data (.bool (!T.lt s t)) := rd_r (rd_geTr h)
end

/-! ### all / any of zip(t, u) with a pair as target -/
section
variable {K : PySem.W.Frag} {ρ : Rho} {te : TE} {i j : Nat}
theorem lc_zipT {a b : Addr} {xs ys : List V} {g : TG} {tt : TT} {te : TE} {vs : List Nat} {σ : L2.St} {H1 : Hp} {Dl : Addr} {Qd : Hp → Prop} (hl : xs.length = ys.length) (Pv : Nat → Hp → Prop) (h0 : Pv 0 (upd H1 Dl (.lst []))) (hq : ∀ i H, Pv i H → SqT K H a xs ∧ SqT K H b ys)
    (hs : ∀ (i : Nat) (x y : V) (T : Addr) (H : Hp), xs[i]? = some x → ys[i]? = some y → Pv i H → H T = none → g (.ref T) (wipe σ vs) (upd H T (.tup [x, y])) fun σ2 H2 => wipe σ2 vs = wipe σ vs ∧ tt σ2 H2 fun b H3 =>
      if b = true then te σ2 H3 fun y H4 => ∃ acc, H4 Dl = some (.lst acc) ∧ acc.length < sizeLine ∧ Pv (i + 1) (upd H4 Dl (.lst (acc ++ [y]))) else Pv (i + 1) H3) (hd : ∀ H, Pv xs.length H → Qd H) :
    ∃ W : Nat → Nat → Hp → Prop, (∃ m, W 0 m (upd H1 Dl (.lst []))) ∧ ∀ i m H, W i m H →
      ((RZ.ItzT K a b).stop i H ∧ Qd H) ∨ ((RZ.ItzT K a b).go i H ∧ ∃ Nx : Hp → Prop, (∀ H', Nx H' → ∃ m', m' < m ∧ W (i + 1) m' H') ∧ ∀ x H', (RZ.ItzT K a b).yld i H x H' → g x (wipe σ vs) H' fun σ2 H2 => wipe σ2 vs = wipe σ vs ∧ tt σ2 H2 fun b H3 =>
        if b = true then te σ2 H3 fun y H4 => ∃ acc, H4 Dl = some (.lst acc) ∧ acc.length < sizeLine ∧ Nx (upd H4 Dl (.lst (acc ++ [y]))) else Nx H3) := by
  refine ⟨fun i m H => i + m = xs.length ∧ Pv i H, ⟨xs.length, Nat.zero_add _, h0⟩, fun i m H w => ?_⟩
  obtain ⟨hm, p⟩ := w
  obtain ⟨qx, qy⟩ := hq i H p
  rcases Nat.lt_or_ge i xs.length with hlt | hge
  · obtain ⟨x, hx⟩ : ∃ x, xs[i]? = some x := ⟨_, List.getElem?_eq_getElem hlt⟩
    obtain ⟨y, hy⟩ : ∃ y, ys[i]? = some y := ⟨_, List.getElem?_eq_getElem (hl ▸ hlt)⟩
    refine .inr ⟨⟨xs, ys, x, y, qx, qy, hx, hy⟩, Pv (i + 1), fun H' p' => ⟨m - 1, by omega, by omega, p'⟩, fun v H' yl => ?_⟩
    obtain ⟨T, x', y', e1, hT, e2, f1, f2⟩ := yl
    subst e1 e2
    exact hs i x' y' T H (f1 xs qx) (f2 ys qy) p hT
  · have e : i = xs.length := by omega
    subst e
    exact .inl ⟨⟨xs, ys, qx, qy, .inl (Nat.le_refl _)⟩, hd H p⟩
abbrev gPair (K : PySem.W.Frag) (i j : Nat) : TG := gTup K 2 (gCons (gName i) (gCons (gName j) gNil))
def zipm (f : D → D → D) : List D → List D → List D
  | x :: xs, y :: ys => f x y :: zipm f xs ys
  | _, _ => []
theorem zipm_len (f : D → D → D) : ∀ xs ys : List D, xs.length = ys.length → (zipm f xs ys).length = xs.length
  | [], [], _ => rfl
  | x :: xs, y :: ys, h => by
    show (zipm f xs ys).length + 1 = xs.length + 1
    rw [zipm_len f xs ys (by simpa using h)]
  | [], _ :: _, h => by cases h
  | _ :: _, [], h => by cases h
theorem zipm_get (f : D → D → D) : ∀ (xs ys : List D) (i : Nat) (x y : D), xs[i]? = some x → ys[i]? = some y → (zipm f xs ys)[i]? = some (f x y)
  | [], _, _, _, _, h, _ => by simp at h
  | _ :: _, [], _, _, _, _, h => by simp at h
  | a :: xs, b :: ys, 0, x, y, h1, h2 => by
    have e1 : a = x := Option.some.inj h1
    have e2 : b = y := Option.some.inj h2
    subst e1 e2
    rfl
  | a :: xs, b :: ys, i + 1, x, y, h1, h2 => zipm_get f xs ys i x y h1 h2
theorem el_lcZ {ta : TA} {xs ys : List D} (f : D → D → D) (hsrc : EDs K ta ρ [.tuple xs, .tuple ys]) (hl : xs.length = ys.length) (hz : xs.length ≤ 50000) (hij : i ≠ j)
    (he : ∀ (k : Nat) (x y : D), xs[k]? = some x → ys[k]? = some y → ED K te (((wipeR ρ [i, j]).set i (some x)).set j (some y)) (f x y)) :
    EL K (tLc (RZ.iZipA K ta) (gPair K i j) tYes te [i, j]) ρ (zipm f xs ys) := fun σ H Hm s l hs Q q => by
  refine hsrc σ H Hm s l hs _ fun vs H1 Hm1 g1 h1 => ?_
  obtain ⟨va, vb, rfl, da, db⟩ := dps2 h1
  obtain ⟨a, us, rfl, hx, ha⟩ := dp_tup da
  obtain ⟨b, ws, rfl, hy, hb⟩ := dp_tup db
  have la := ha.len
  have lb := hb.len
  refine ⟨a, b, us, ws, rfl, .inr ⟨ex_t g1.sub hx, ex_t g1.sub hy, fun Dl hD => ?_⟩⟩
  refine lc_zipT (xs := us) (ys := ws) (by omega) (fun k H' => Cp K H1 Hm1 Dl ((zipm f xs ys).take k) H') ?_ (fun k H' c => ?_) (fun k x y T H' hi hi2 c hT => ?_) (fun H' c => ?_)
  · exact ⟨Hm1, [], Gr.priv g1.sub hD, fresh_back g1.sub hD, upd_same, .nil⟩
  · obtain ⟨_, _, g, _⟩ := c
    exact ⟨ex_t g.sub (ex_t g.em hx), ex_t g.sub (ex_t g.em hy)⟩
  · obtain ⟨d, hd, hxd⟩ := ha.get' hi
    obtain ⟨d2, hd2, hyd⟩ := hb.get' hi2
    have hm := zipm_get f xs ys k d d2 hd hd2
    obtain ⟨Hm', acc, g, n1, n2, n3⟩ := c
    have gT : Gr H' Hm' (upd H' T (.tup [x, y])) Hm' := Gr.priv g.sub hT
    refine ⟨T, [x, y], rfl, .inl (.inl upd_same), rfl, x, [y], rfl, y, [], rfl, rfl, ?_, ?_⟩
    · show ((((((σ.set j none).set i none).set i (some x)).set j (some y)).set j none).set i none) = ((σ.set j none).set i none)
      apply List.ext_getElem?
      intro m
      simp only [List.getElem?_set, List.length_set]
      by_cases m1 : i = m <;> by_cases m2 : j = m <;> simp [m1, m2]
    · have l2 : (((wipeR ρ [i, j]).set i (some d)).set j (some d2)).length ≤ (((wipe σ [i, j]).set i (some x)).set j (some y)).length := by simp only [List.length_set, wipeR_length, wipe_length]; exact l
      have l3 : (wipeR ρ [i, j]).length ≤ (wipe σ [i, j]).length := by rw [wipeR_length, wipe_length]; exact l
      have S : Sd K Hm' (((wipe σ [i, j]).set i (some x)).set j (some y)) (((wipeR ρ [i, j]).set i (some d)).set j (some d2)) :=
        ((((hs.mono g1.em).mono g.em).wipe [i, j]).set l3 i (hxd.mono g.em)).set (by simp only [List.length_set]; exact l3) j (hyd.mono g.em)
      show tYes _ _ _
      refine (et_yes (K := K) (ρ := (((wipeR ρ [i, j]).set i (some d)).set j (some d2)))) _ _ Hm' gT.sub l2 S _ fun H3 Hm3 g3 => ?_
      simp only [if_true]
      refine he k d d2 hd hd2 _ H3 Hm3 g3.sub l2 (S.mono g3.em) _ fun z H4 Hm4 g4 hz4 => ?_
      have g5 := (gT.trans g3).trans g4
      have e4 : H4 Dl = some (.lst acc) := g5.ex _ _ n2
      have m4 : Hm4 Dl = none := g5.own _ _ n2 n1
      refine ⟨acc, e4, sz_lt (by rw [n3.len, List.length_take, zipm_len f xs ys hl]; omega), Hm4, acc ++ [z], ⟨?_, g.em.trans g5.em, ?_, (g.trans g5).own⟩, m4, upd_same, ?_⟩
      · exact Ex.mut (g.ex.trans g5.ex) hD
      · intro c o hc
        have : c ≠ Dl := fun e => by subst e; rw [m4] at hc; cases hc
        rw [upd_ne this]; exact g4.sub c o hc
      · rw [List.take_add_one, hm]
        exact (n3.mono g5.em).snoc hz4
  · rw [List.take_of_length_le (by rw [zipm_len f xs ys hl]; omega)] at c
    obtain ⟨Hm', acc, g, n1, n2, n3⟩ := c
    exact q Dl acc H' Hm' (g1.trans g) (fresh_back g1.ex hD) n1 n2 n3
end

/-! ### sep.join(list of texts) -/
section
variable {K : PySem.W.Frag}
abbrev rJoin (K : PySem.W.Frag) : V → List V → Hp → VK → Prop := fun x xs H Q => ∃ a p, ∃ ys : List Str, x = .str a ∧ xs = [.ref p] ∧ (SqL K H p (ys.map V.str) ∨ SqT K H p (ys.map V.str)) ∧ (ys.map (·.length)).sum + ys.length * a.length ≤ 16777216 ∧ Q (.str (Txt.join a ys)) H
theorem ed_join {ρ : Rho} {to te : TE} {a : Str} {ys : List Str} {ds : List D} (ho : ED K to ρ (.str a)) (he : ED K te ρ (.list ds)) (e : ds = ys.map PyData.str) (hz : (ys.map (·.length)).sum + ys.length * a.length ≤ 16777216) : ED K (tM1 (rJoin K) to te) ρ (.str (Txt.join a ys)) := fun σ H Hm s l hs Q q =>
  ho σ H Hm s l hs _ fun x H1 Hm1 g1 h1 => ⟨⟨a, dp_str h1⟩, he σ H1 Hm1 g1.sub l (hs.mono g1.em) _ fun y H2 Hm2 g2 h2 => by
    subst e
    obtain ⟨p, ws, rfl, hp, hd⟩ := dp_lst h2
    have := dp_strs hd
    subst this
    exact ⟨a, p, ys, dp_str h1, rfl, .inl (ex_l g2.sub hp), hz, q _ H2 Hm2 (g1.trans g2) (.str _)⟩⟩
end

/-! ### xs.extend(ys), ys any list or tuple -/
section
variable {X : Cx}
theorem extend_any (T : String) (hT : T = "list" ∨ T = "tuple") (l : Addr) (items : Array Value) (n : Nat) (b : Addr) (items2 : Array Value) (n2 : Nat) (dd2 : Option Addr) (sl2 : Array (Option Value)) (hc0 : ¬(!items.isEmpty && Builtin.List.listTooLong (items.size + items2.size)) = true) (hc1 : items.size ≤ sizeLine) (hs2 : (items ++ items2).size ≤ sizeLine + 1) :
    Meets (Builtin.«list.extend» ⟨[.ref l, .ref b], []⟩) (fun _ R s => s.heap.get? l = some { cls := .type "list", dict := none, data := .seq items n, slots := #[] } ∧ s.heap.get? b = some { cls := .type T, dict := dd2, data := .seq items2 n2, slots := sl2 } ∧
      R (.ok (.ret Value.none)) { s with heap := s.heap.update l (Obj.mapSeq fun x => x ++ items2), toks := s.toks }) :=
  .of_wp fun prog w A R s h => by
    obtain ⟨hp, g, d, tk, os⟩ := s
    obtain ⟨hl, hb, h⟩ := h
    have f1 := AutoSeq1.idx_int
    have f2 := AutoSeq1.sub_tuple_tuple
    have f3 := AutoSeq1.sub_list_list
    have f4 := AutoSeq1.sub_tuple_list
    have f5 := AutoSeq1.sub_list_tuple
    rcases hT with e | e
    · subst e
      wp_walk using (wpAny_updateSeq hl rfl (hz := hc1) (_hz' := hs2)), wpAny_loadPart' hl, wpAny_loadPart' hb
      exact ⟨_, rfl, h⟩
    · subst e
      wp_walk using (wpAny_updateSeq hl rfl (hz := hc1) (_hz' := hs2)), wpAny_loadPart' hl, wpAny_loadPart' hb
      exact ⟨_, rfl, h⟩
def rExtA (K : PySem.W.Frag) : V → List V → Hp → VK → Prop := fun x vs H Q => ∃ l b xs zs, x = .ref l ∧ vs = [.ref b] ∧ H l = some (.lst xs) ∧ (SqL K H b zs ∨ SqT K H b zs) ∧ xs.length + zs.length ≤ sizeLine ∧ Q .non (upd H l (.lst (xs ++ zs)))
theorem mt_extA : MtM X "list.extend" (rExtA X.K) := by
  intro pins s σ H x vs v us Q I rx rv ⟨l, b, xs, zs, ex, ev, hH, hB, hz, q⟩
  subst ex ev
  cases rx
  obtain ⟨u, rfl, ru⟩ := rv.one
  cases ru
  obtain ⟨z, its, n, r, hl, e⟩ := I.lstM hH
  obtain ⟨T, hT, its2, r2, ⟨cls2, dd2, dat2, sl2⟩, n2, ho2, hc2, hd2⟩ : ∃ T, (T = "list" ∨ T = "tuple") ∧ ∃ its2 : List Value, Vals zs its2 ∧ ∃ (o : Obj) (n2 : Nat), s.heap.get? b = some o ∧ o.cls = .type T ∧ o.data = .seq its2.toArray n2 := by
    rcases hB with hB | hB
    · obtain ⟨i2, r2, p2, _⟩ := I.list hB
      obtain ⟨o, ho, hc, n2, hd⟩ := p2.isList
      exact ⟨"list", .inl rfl, i2, r2, o, n2, ho, hc, hd⟩
    · obtain ⟨i2, r2, ⟨o, ho, hc, n2, hd⟩, _⟩ := I.tuple hB
      exact ⟨"tuple", .inr rfl, i2, r2, o, n2, ho, hc, hd⟩
  simp only at hc2 hd2
  subst hc2 hd2
  have l1 := r2.length
  have hsz : its.toArray.size + its2.toArray.size ≤ sizeLine := by rw [List.size_toArray, List.size_toArray, ← l1, ← hl]; exact hz
  have hlong : ¬ (!its.toArray.isEmpty && Builtin.List.listTooLong (its.toArray.size + its2.toArray.size)) = true := by
    rw [notLongL hsz, Bool.and_false]
    exact Bool.false_ne_true
  refine call_meets F.slot_list_extend ⟨_, e, rfl⟩ F.entry_list_extend (F.args_list_extend_2 _ _) (extend_any T hT l its.toArray n b its2.toArray n2 dd2 sl2 hlong (by omega) (by rw [Array.size_append]; omega)) ⟨e, ho2, ?_⟩
  refine ⟨.non, _, I.lset (its' := its ++ its2) hH e (by simp) (r.append r2) ?_, rfl, q⟩
  rw [List.length_append]
  exact hz
end
theorem imms_get : ∀ {es : List D} {d : D}, imms es = true → d ∈ es → imm d = true
  | [], _, _, h => by cases h
  | x :: xs, d, q, h => by
    simp only [imms, Bool.and_eq_true] at q
    rcases List.mem_cons.mp h with e | h
    · rw [e]; exact q.1
    · exact imms_get q.2 h
section
variable {K : PySem.W.Frag} {ρ : Rho} {te : TE} {i : Nat} {ds es : List D}
theorem xd_ext (h : ED K te (ρ.set i (some (.list ds))) (.list es)) (hd : imms es = true) (hz : ds.length + es.length ≤ 90000) :
    XD K (tDrop (tBM K "list" (rExtA K) (tVar i) (tCons te tNil))) ρ (some (i, ds)) (.nx ρ (some (i, ds ++ es))) := fun H0 Hm0 E σ H Hm S f => by
  obtain ⟨Hv, s1, s2, s3, s4, s5, s6⟩ := S.view
  obtain ⟨a, vs, h1, h2, h3, h4, h5, e⟩ := id s6
  refine ⟨.ref a, h1, .inl ⟨rfl, vs, .inl (.inl h4)⟩, ?_⟩
  refine h σ H Hv s1 s4 s3 _ fun v H2 Hv2 g hv => ?_
  obtain ⟨b, ws, rfl, hb, hw⟩ := dp_lst hv
  subst e
  have e2 : Hv2 a = some (.lst vs) := g.em _ _ upd_same
  obtain ⟨Hm2, em, S2, back⟩ := S.hide s2 s6 g
  obtain ⟨a', vs', k1, k2, k3, k4, k5⟩ := S2.own
  rw [h1] at k1
  cases k1
  rw [g.ex _ _ h4] at k4
  cases k4
  have hw2 : DpAll K Hm2 ws es := by
    refine DpAll.of_get hw.len fun k v d h1 h2 => ?_
    obtain ⟨d', hd', hv'⟩ := hw.get' h1
    rw [h2] at hd'
    cases hd'
    refine back v d (.inr ?_) hv'
    exact imms_get hd (List.mem_of_getElem? h2)
  refine ⟨a, b, vs, ws, rfl, rfl, g.ex _ _ h4, .inl (ex_l g.sub hb), ?_, ?_⟩
  · exact sz_of (by rw [h5.len, hw.len]; omega)
  · exact f _ _ Hm2 em (S2.put h1 k2 k3 (k5.app hw2))
end
end LM

set_option Elab.async false
set_option linter.all false
set_option maxRecDepth 100000
set_option maxHeartbeats 1000000
/-! Lm7: one rule for each word in front of a rest; names of the top; lists handed back. -/
namespace LM
open PySem PySem.Spec PyProof.Rows L2 Evl
section
variable {K : PySem.W.Frag} {ρ ρ' : Rho} {ω ω' : Om} {o : Out} {t u w : TS} {te : TE} {ta : TA} {tt : TT} {d : D} {ds es : List D} {i j : Nat}
theorem xd_ifs {b : Bool} (h : ET K tt (vw ρ ω) b) (h1 : b = true → XD K (tSeq t w) ρ ω o) (h2 : b = false → XD K (tSeq u w) ρ ω o) : XD K (tSeq (tIfS tt t u) w) ρ ω o := fun H0 Hm0 E σ H Hm S f => by
  obtain ⟨Hv, s1, s2, s3, s4, s5, s6⟩ := S.view
  refine h σ H Hv s1 s4 s3 _ fun H2 Hv2 g => ?_
  obtain ⟨Hm2, em, S2, back⟩ := S.hide s2 s6 g
  cases b with
  | true => exact h1 rfl H0 Hm0 E σ H2 Hm2 S2 (f.mono em)
  | false => exact h2 rfl H0 Hm0 E σ H2 Hm2 S2 (f.mono em)
theorem xd_assoc (h : XD K (tSeq t (tSeq u w)) ρ ω o) : XD K (tSeq (tSeq t u) w) ρ ω o := h
theorem xd_nexts (h : XD K w ρ ω o) : XD K (tSeq tNext w) ρ ω o := h
theorem xd_rets (h : ED K te (vw ρ ω) d) : XD K (tSeq (tRet te) w) ρ ω (.rt d) := xd_seq_rt (xd_ret h)
theorem xd_breaks : XD K (tSeq tBreak w) ρ ω (.bk ρ ω) := xd_seq_bk xd_break
/-- a call as a statement's expression whose value is dropped -/
theorem hide_none {H : Hp} : True := trivial
end

/-! ### what the top holds -/
structure BI (mg : Str → Option Value) : Prop where
  len : mg "len" = none
  range : mg "range" = none
  sorted : mg "sorted" = none
  set : mg "set" = none
  tuple : mg "tuple" = none
  list : mg "list" = none
  zip : mg "zip" = none
  all : mg "all" = none
  any : mg "any" = none
  sum : mg "sum" = none
  max : mg "max" = none
  min : mg "min" = none
  isinstance : mg "isinstance" = none
  int : mg "int" = none
  bool : mg "bool" = none
  str : mg "str" = none
  abs : mg "abs" = none
  enumerate : mg "enumerate" = none
  repr : mg "repr" = none
  ValueError : mg "ValueError" = none
theorem pe_const {X : Cx} {x : Str} {n : Int} {pos : Pos} (h : ∃ tk, X.mg x = some (.int n tk)) (hg : Gl X x) (hd : (x == ("__debug__" : Str)) = false := by decide) : PE X (.Name x pos) (tC (.int n)) := by
  obtain ⟨tk, h⟩ := h
  exact pe_glob hg h ⟨tk, rfl⟩ hd
theorem hu65 {A : Around} {k : Nat} (hr : Room k A) : A.units + 65 < cLine := by have := hr.un; omega

/-! ### == of data, of texts -/
abbrev rEqU (K : PySem.W.Frag) : R2 := orR (rEqD K) rEq
abbrev rNeU (K : PySem.W.Frag) : R2 := orR (rNeD K) rNe
theorem op_eqU {X : Cx} (hu : X.A.units + 64 < cLine) : OpR X (compareOp .Eq) (rEqU X.K) := (op_eqD hu).or op_eq
theorem op_neU {X : Cx} (hu : X.A.units + 64 < cLine) : OpR X (compareOp .NotEq) (rNeU X.K) := (op_neD hu).or op_ne
section
variable {K : PySem.W.Frag}
theorem rd_eqU {a b : D} (ha : SeqAt.shaped a = true) (hb : SeqAt.shaped b = true) : RD K (rEqU K) a b (.bool (PyData.eqv a b)) := rd_l (rd_eqD ha hb)
theorem rd_neU {a b : D} (ha : SeqAt.shaped a = true) (hb : SeqAt.shaped b = true) : RD K (rNeU K) a b (.bool (!PyData.eqv a b)) := rd_l (rd_neD ha hb)
theorem rd_eqI {i j : Int} : RD K (rEqU K) (.int i) (.int j) (.bool (decide (i = j))) := by
  have h := rd_eqU (K := K) (a := .int i) (b := .int j) rfl rfl
  rwa [show PyData.eqv (.int i) (.int j) = decide (i = j) by rw [PyData.eqv, Bool.beq_eq_decide_eq]] at h
theorem rd_neI {i j : Int} : RD K (rNeU K) (.int i) (.int j) (.bool (!decide (i = j))) := by
  have h := rd_neU (K := K) (a := .int i) (b := .int j) rfl rfl
  rwa [show PyData.eqv (.int i) (.int j) = decide (i = j) by rw [PyData.eqv, Bool.beq_eq_decide_eq]] at h
theorem rd_eqS {x y : Str} : RD K (rEqU K) (.str x) (.str y) (.bool (decide (x = y))) := fun H Hm v u s hx hy Q q => by
  have := dp_str hx
  have := dp_str hy
  subst_vars
  refine .inr ⟨rfl, ?_⟩
  have e : decide (V.str x = V.str y) = decide (x = y) := by
    by_cases h : x = y
    · subst h; simp
    · rw [decide_eq_false h, decide_eq_false (fun z => h (V.str.inj z))]
  rw [e]
  exact q _ H Hm (Gr.refl s) (.bl _)
theorem rd_neS {x y : Str} : RD K (rNeU K) (.str x) (.str y) (.bool (!decide (x = y))) := fun H Hm v u s hx hy Q q => by
  have := dp_str hx
  have := dp_str hy
  subst_vars
  refine .inr ⟨rfl, ?_⟩
  have e : decide (V.str x = V.str y) = decide (x = y) := by
    by_cases h : x = y
    · subst h; simp
    · rw [decide_eq_false h, decide_eq_false (fun z => h (V.str.inj z))]
  rw [e]
  exact q _ H Hm (Gr.refl s) (.bl _)
end

/-! ### data laws -/
theorem dp_it {K : PySem.W.Frag} {ρ : Rho} {te : TE} {x y : Bool} (h : ED K te ρ (.bool x)) (e : x = y) : ED K te ρ (.bool y) := e ▸ h
theorem eqv_int (i j : Int) : PyData.eqv (.int i) (.int j) = decide (i = j) := by rw [PyData.eqv, Bool.beq_eq_decide_eq]
theorem eqv_str (x y : Str) : PyData.eqv (.str x) (.str y) = decide (x = y) := by rw [PyData.eqv, Bool.beq_eq_decide_eq]
theorem eqv_bool (x y : Bool) : PyData.eqv (.bool x) (.bool y) = decide (x = y) := by cases x <;> cases y <;> decide
theorem eqv_list (xs ys : List D) : PyData.eqv (.list xs) (.list ys) = PyData.eqvAll xs ys := by simp [PyData.eqv]
theorem eqv_tup (xs ys : List D) : PyData.eqv (.tuple xs) (.tuple ys) = PyData.eqvAll xs ys := by simp [PyData.eqv]
theorem eqvs_nil (xs : List D) : PyData.eqvAll xs [] = xs.isEmpty := by cases xs <;> simp [PyData.eqvAll]
theorem ints_inj : ∀ {ns ms : List Int}, ns.map PyData.int = ms.map PyData.int → ns = ms
  | [], [], _ => rfl
  | [], _ :: _, h => by cases h
  | _ :: _, [], h => by cases h
  | n :: ns, m :: ms, h => by
    simp only [List.map_cons, List.cons.injEq, PyData.int.injEq] at h
    rw [h.1, ints_inj h.2]
theorem shaped_int (i : Int) : SeqAt.shaped (.int i) = true := by rfl
theorem shaped_bool (i : Bool) : SeqAt.shaped (.bool i) = true := by rfl
/-- fit to be compared, n levels left -/
def fitD (n : Nat) (d : D) : Prop := d.canLay0 = true ∧ d.depth ≤ n
theorem fitD.shaped {n : Nat} {d : D} (h : fitD n d) (hn : n ≤ 64) : SeqAt.shaped d = true := by
  unfold SeqAt.shaped
  rw [h.1, Bool.true_and, decide_eq_true_eq]
  exact Nat.le_trans h.2 hn
theorem fitD.mono {n m : Nat} {d : D} (h : fitD n d) (hn : n ≤ m) : fitD m d := ⟨h.1, Nat.le_trans h.2 hn⟩
theorem lays_mem : ∀ {ds : List D}, PyData.canLayAll0 ds = true ↔ ∀ d ∈ ds, d.canLay0 = true
  | [] => by simp [PyData.canLayAll0]
  | d :: ds => by simp [PyData.canLayAll0, lays_mem (ds := ds)]
theorem deps_mem {n : Nat} : ∀ {ds : List D}, PyData.depthAll ds ≤ n ↔ ∀ d ∈ ds, d.depth ≤ n
  | [] => by simp [PyData.depthAll]
  | d :: ds => by simp [PyData.depthAll, deps_mem (ds := ds), Nat.max_le]
theorem fit_tup {n : Nat} {ds : List D} : fitD (n + 1) (.tuple ds) ↔ ∀ d ∈ ds, fitD n d := by
  unfold fitD
  simp only [PyData.canLay0, PyData.depth, lays_mem, Nat.add_le_add_iff_right, deps_mem]
  exact ⟨fun h d hd => ⟨h.1 d hd, h.2 d hd⟩, fun h => ⟨fun d hd => (h d hd).1, fun d hd => (h d hd).2⟩⟩
theorem fit_lst {n : Nat} {ds : List D} : fitD (n + 1) (.list ds) ↔ ∀ d ∈ ds, fitD n d := by
  unfold fitD
  simp only [PyData.canLay0, PyData.depth, lays_mem, Nat.add_le_add_iff_right, deps_mem]
  exact ⟨fun h d hd => ⟨h.1 d hd, h.2 d hd⟩, fun h => ⟨fun d hd => (h d hd).1, fun d hd => (h d hd).2⟩⟩
theorem fit_T {n : Nat} {t : T} (h : t.depth ≤ n) : fitD n t.data := ⟨T.data_lay t, by rw [T.data_depth]; exact h⟩
theorem fit_int {n : Nat} {i : Int} : fitD n (.int i) := ⟨rfl, by rw [PyData.depth]; exact Nat.zero_le _⟩
theorem fit_bool {n : Nat} {i : Bool} : fitD n (.bool i) := ⟨rfl, by rw [PyData.depth]; exact Nat.zero_le _⟩
theorem fit_str {n : Nat} {i : Str} (h : (PyData.str i).canLay0 = true) : fitD n (.str i) := ⟨h, by rw [PyData.depth]; exact Nat.zero_le _⟩
theorem fit_none {n : Nat} : fitD n .none := ⟨rfl, by rw [PyData.depth]; exact Nat.zero_le _⟩
theorem atI_z {α : Type} {l : List α} {i : Int} {x : α} (h0 : 0 ≤ i) (h : l[i.toNat]? = some x) : atI l i = some x := by
  have := atI_nat h
  rwa [Int.toNat_of_nonneg h0] at this
theorem atI_last {α : Type} {l : List α} {x : α} : atI (l ++ [x]) (-1) = some x := by
  unfold atI ixN
  rw [List.length_append, List.length_singleton, if_neg (by omega), if_pos (by omega)]
  have : ((-1 : Int) + ((l.length + 1 : Nat) : Int)).toNat = l.length := by omega
  show (l ++ [x])[((-1 : Int) + ((l.length + 1 : Nat) : Int)).toNat]? = some x
  rw [this, List.getElem?_append_right (Nat.le_refl _), Nat.sub_self]; rfl
theorem atI_map {α β : Type} {l : List α} {f : α → β} {i : Int} {x : α} (h : atI l i = some x) : atI (l.map f) i = some (f x) := by
  unfold atI at h ⊢
  rw [List.length_map]
  obtain ⟨j, h1, h2⟩ := Option.bind_eq_some_iff.mp h
  rw [h1]
  show (l.map f)[j]? = _
  rw [List.getElem?_map, h2]; rfl
theorem cut_nat {α : Type} (xs : List α) (a b : Nat) : cut xs (some (a : Int)) (some (b : Int)) = (xs.drop a).take (b - a) := by
  unfold cut
  rw [HT.sIx_nat, HT.sIx_nat]
  rcases Nat.le_total a xs.length with h | h
  · rw [Nat.min_eq_left h]
    rcases Nat.le_total b xs.length with h2 | h2
    · rw [Nat.min_eq_left h2]
    · rw [Nat.min_eq_right h2, List.take_of_length_le (by rw [List.length_drop]; omega), List.take_of_length_le (by rw [List.length_drop]; omega)]
  · rw [Nat.min_eq_right h, List.drop_eq_nil_of_le (Nat.le_refl _), List.drop_eq_nil_of_le h, List.take_nil, List.take_nil]
theorem cut_from {α : Type} (xs : List α) (a : Nat) : cut xs (some (a : Int)) none = xs.drop a := by
  unfold cut
  rw [HT.sIx_nat, HT.sIx_none]
  rcases Nat.le_total a xs.length with h | h
  · rw [Nat.min_eq_left h, List.take_of_length_le (by rw [List.length_drop]; omega)]
  · rw [Nat.min_eq_right h, List.drop_eq_nil_of_le (Nat.le_refl _), List.drop_eq_nil_of_le h, List.take_nil]
theorem cut_to {α : Type} (xs : List α) (b : Nat) : cut xs none (some (b : Int)) = xs.take b := by
  unfold cut
  rw [HT.sIx_none, HT.sIx_nat, List.drop_zero, Nat.sub_zero]
  rcases Nat.le_total b xs.length with h | h
  · rw [Nat.min_eq_left h]
  · rw [Nat.min_eq_right h, List.take_of_length_le (Nat.le_refl _), List.take_of_length_le h]
theorem sIx_neg1 (n : Nat) (d : Nat) : HT.sIx n d (some (-1)) = n - 1 := by
  unfold HT.sIx
  simp
  omega
theorem cut_front {α : Type} (xs : List α) : cut xs none (some (-1)) = xs.take (xs.length - 1) := by
  unfold cut
  rw [HT.sIx_none, sIx_neg1, List.drop_zero, Nat.sub_zero]
theorem cut_last {α : Type} (xs : List α) : cut xs (some (-1)) none = xs.drop (xs.length - 1) := by
  unfold cut
  rw [HT.sIx_none, sIx_neg1, List.take_of_length_le (by rw [List.length_drop]; omega)]
end LM
namespace LM
open PySem PySem.Spec PyProof.Rows L2 Evl
section
variable {K : PySem.W.Frag} {ρ ρ' ρ2 : Rho} {ω ω' : Om} {t tu : TS} {d : D} {items : List D} {i j : Nat}
/-- fewer slots are told -/
theorem xd_less (h : XD K t ρ ω (.nx ρ' ω')) (hl : ρ2.length = ρ'.length) (hw : ∀ (i : Nat) (d : D), ρ2[i]? = some (some d) → ρ'[i]? = some (some d)) : XD K t ρ ω (.nx ρ2 ω') := fun H0 Hm0 E σ H Hm S f =>
  h H0 Hm0 E σ H Hm S fun σ' H' Hm' x S' => f σ' H' Hm' x (S'.less hl hw)
theorem xd_lessIn {o : Out} (h : XD K t ρ2 ω o) (hl : ρ2.length = ρ.length) (hw : ∀ (i : Nat) (d : D), ρ2[i]? = some (some d) → ρ[i]? = some (some d)) : XD K t ρ ω o := fun H0 Hm0 E σ H Hm S f =>
  h H0 Hm0 E σ H Hm (S.less hl hw) f
theorem set_less {ρ : Rho} {j : Nat} {x : D} (h : ∀ d : D, ρ[j]? ≠ some (some d)) (i : Nat) (d : D) (e : ρ[i]? = some (some d)) : (ρ.set j (some x))[i]? = some (some d) := by
  have hne : j ≠ i := fun z => h d (z ▸ e)
  rw [List.getElem?_set_ne hne]; exact e
/-- a loop all of whose turns go through; the target's slot is forgotten behind each -/
theorem Go.allF {ρs : Nat → Rho} {ωs : Nat → Om} (hj : ∀ i d, (ρs i)[j]? ≠ some (some d)) (hl : ∀ i, (ρs i).length = (ρs 0).length) (h : ∀ i d, items[i]? = some d → XD K tu ((ρs i).set j (some d)) (ωs i) (.nx ((ρs (i + 1)).set j (some d)) (ωs (i + 1)))) :
    Go K tu j items ρs ωs (.nx (ρs items.length) (ωs items.length)) := Go.all fun i d hd => xd_less (h i d hd) (by rw [List.length_set]) (set_less (hj (i + 1)))
/-- .. of which turn m hands back -/
theorem Go.retF {ρs : Nat → Rho} {ωs : Nat → Om} {m : Nat} {r : D} (hj : ∀ i d, (ρs i)[j]? ≠ some (some d)) (hm : items[m]? = some d) (h : ∀ i d, i < m → items[i]? = some d → XD K tu ((ρs i).set j (some d)) (ωs i) (.nx ((ρs (i + 1)).set j (some d)) (ωs (i + 1))))
    (hr : XD K tu ((ρs m).set j (some d)) (ωs m) (.rt r)) : Go K tu j items ρs ωs (.rt r) :=
  ⟨m, Nat.le_of_lt (List.getElem?_eq_some_iff.mp hm).1, fun i d hi hd => xd_less (h i d hi hd) (by rw [List.length_set]) (set_less (hj (i + 1))), .inr ⟨d, hm, .inl ⟨r, rfl, hr⟩⟩⟩
end
theorem fit_Ts {n : Nat} {ts : List T} (h : T.depths ts ≤ n) : ∀ d ∈ ts.map T.data, fitD n d := fun d hd => by
  obtain ⟨t, ht, rfl⟩ := List.mem_map.mp hd
  exact fit_T (Nat.le_trans (T.depth_mem ht) h)
theorem imms_of : ∀ {ds : List D}, (∀ d ∈ ds, imm d = true) → imms ds = true
  | [], _ => rfl
  | d :: ds, h => by
    rw [imms, h d List.mem_cons_self, imms_of fun x hx => h x (List.mem_cons_of_mem _ hx)]; rfl
mutual
theorem imm_T : ∀ t : T, imm t.data = true
  | .n ts => by rw [T.data, imm]; exact imms_T ts
theorem imms_T : ∀ ts : List T, imms (T.datas ts) = true
  | [] => by rw [T.datas]; rfl
  | t :: ts => by rw [T.datas, imms, imm_T t, imms_T ts]; rfl
end
theorem imms_Ts (ts : List T) : imms (ts.map T.data) = true := by rw [← T.datas_eq]; exact imms_T ts
theorem T.once_app (x : T) : ∀ (l acc : List T), T.once acc (l ++ [x]) = if (T.once acc l).getLast? = some x then T.once acc l else T.once acc l ++ [x]
  | [], acc => rfl
  | y :: l, acc => T.once_app x l _
end LM
namespace LM
open PySem PySem.Spec PyProof.Rows L2 Evl
section
variable {P : Program} {w : World} {K : PySem.W.Frag} {mg : Str → Option Value} {base : Heap} {k : Nat} {x : Str}
/-- a promise of nothing -/
theorem has_none {f : Addr} {fd : FuncData} {ps : List Str} {st : Stmt} {R : List D → D → Prop} (F : Fun K x x st f fd) (b : Binds K fd ps []) (hm : mg x = some (.ref f)) (no : ∀ ds r, ¬ R ds r) : Has P w K mg base k x (SpR K R) := by
  refine ⟨f, fd, ps, ⟨fun vs H Q E h => ?_, fun A outer s H args us vs Q E _ _ _ _ h => ?_⟩, hm, F.kp, b⟩
  · obtain ⟨ds, r, _, _, _, h, _⟩ := h; exact absurd h (no ds r)
  · obtain ⟨ds, r, _, _, _, h, _⟩ := h; exact absurd h (no ds r)
theorem Has.imp {R R' : List D → D → Prop} (h : Has P w K mg base k x (SpR K R)) (im : ∀ ds r, R' ds r → R ds r) : Has P w K mg base k x (SpR K R') := by
  obtain ⟨f, fd, ps, F, a, b, c⟩ := h.ex
  have tr : ∀ vs H Q E, SpR K R' vs H Q E → SpR K R vs H Q E := fun vs H Q E h => by
    obtain ⟨ds, r, Hm, h1, h2, h3, h4⟩ := h
    exact ⟨ds, r, Hm, h1, h2, im ds r h3, h4⟩
  refine ⟨f, fd, ps, ⟨fun vs H Q E h => F.1 vs H Q E (tr _ _ _ _ h), fun A outer s H args us vs Q E h1 h2 h3 h4 h => F.2 A outer s H args us vs Q E h1 h2 h3 h4 (tr _ _ _ _ h)⟩, a, b, c⟩
end
end LM

set_option Elab.async false
set_option linter.all false
set_option maxRecDepth 100000
set_option maxHeartbeats 1000000
/-! Lm8: the rules with what stands at the top named by itself (K), so that they may be used within a comprehension. -/
namespace LM
open PySem PySem.Spec PyProof.Rows L2 Evl
section
variable (K : PySem.W.Frag) {X : Cx} (h : X.K = K)
include h
theorem op_addK : OpR X (binaryOp .Add) (rAddU K) := h ▸ op_addU
theorem op_mulK : OpR X (binaryOp .Mult) (rMulU K) := h ▸ op_mulU
theorem op_eqK (hu : X.A.units + 64 < cLine) : OpR X (compareOp .Eq) (rEqU K) := h ▸ op_eqU hu
theorem op_neK (hu : X.A.units + 64 < cLine) : OpR X (compareOp .NotEq) (rNeU K) := h ▸ op_neU hu
theorem op_ltK (hu : X.A.units + 64 < cLine) : OpR X (compareOp .Lt) (rLtU K) := h ▸ op_ltU hu
theorem op_geK (hu : X.A.units + 64 < cLine) : OpR X (compareOp .GtE) (rGeU K) := h ▸ op_geU hu
theorem op_inDK (hu : X.A.units + 65 < cLine) : OpR X (compareOp .In) (rInD K) := h ▸ op_inD hu
theorem op_notInDK (hu : X.A.units + 65 < cLine) : OpR X (compareOp .NotIn) (rNotInD K) := h ▸ op_notInD hu
theorem ix_K : IxR X (rIx K) := h ▸ ix_seq
theorem sl_K : SlR X (rSlU K) := h ▸ sl_u
theorem call_lenK : CallR X (.builtin "len") (rLen K) := h ▸ call_len_seq
theorem call_isiK' : CallR X (.builtin "isinstance") (rIsi K) := h ▸ call_isi
theorem cr_anyK (hc : X.calm = true) : CallR X (.builtin "any") (rAny K) := h ▸ cr_any hc
theorem cr_allK (hc : X.calm = true) : CallR X (.builtin "all") (rAll K) := h ▸ cr_all hc
theorem cr_sumK (hc : X.calm = true) : CallR X (.builtin "sum") (rSum K) := h ▸ cr_sum hc
theorem cr_maxK (hc : X.calm = true) : CallR X (.builtin "max") (rMax K) := h ▸ cr_max hc
theorem cr_minK (hc : X.calm = true) : CallR X (.builtin "min") (rMin K) := h ▸ cr_min hc
theorem call_listK : CallR X (.type "list") (rLstOf K) := h ▸ call_list_of
theorem call_tupleK : CallR X (.type "tuple") (rTupOf K) := h ▸ call_tuple_of
theorem cr_sortedK (hu : X.A.units + 100 < cLine) : CallR X (.builtin "sorted") (rSortTr K) := h ▸ cr_sortedTr hu
theorem pi_listK {tg l : Expr} {tl : TE} (hl : PE X l tl) : PI X tg l (iList K tl) := h ▸ pi_list hl
theorem pi_tupK {tg l : Expr} {tl : TE} (hl : PE X l tl) : PI X tg l (iTup K tl) := h ▸ pi_tup hl
theorem pe_joinK {o e : Expr} {to te : TE} {apos pos : Pos} (ho : PE X o to) (he : PE X e te) (hs : starEach [e] X.env = [(false, eval e X.env)] := by rfl) (hbase : attributeBase o "join" X.env (eval o X.env) = eval o X.env := by rfl) (hline : (apos.endLine == pos.line) = true := by rfl) :
    PE X (.Call (.Attribute o "join" apos) [e] [] pos) (tM1 (rJoin K) to te) := h ▸ pe_join ho he hs hbase hline
theorem pe_bmK {T : String} {name : Str} {o e : Expr} {es : List Expr} {to : TE} {t : TA} {r : V → List V → Hp → VK → Prop} {apos pos : Pos} (x : PE X (.Call (.Attribute o name apos) (e :: es) [] pos) (tBM X.K T r to t)) : PE X (.Call (.Attribute o name apos) (e :: es) [] pos) (tBM K T r to t) := h ▸ x
theorem pi_zipK {e e2 : Expr} {ta : TA} {p pos tpos : Pos} {elts : List Expr} {kk : Nat} (hg : Gl X "zip") (hm : X.mg "zip" = none) (ha : PA X [e, e2] ta)
    (hs : starEach [e, e2] X.env = (false, eval e X.env) :: starEach [e2] X.env := by rfl) (hpl : (backTo pos (starEach [e2] X.env)).any (·.1) = false := by rfl) :
    PI X (.Tuple elts kk tpos) (.Call (.Name "zip" p) [e, e2] [] pos) (RZ.iZipA K ta) := h ▸ RZ.pi_zipA hg hm ha hs hpl
theorem pg_tupK {es : List Expr} {kk : Nat} {pos : Pos} {t : TGs} {n : Nat} (hg : PG X (.Tuple es kk pos) (gTup X.K n t)) : PG X (.Tuple es kk pos) (gTup K n t) := h ▸ hg
/-- t[::-1] -/
theorem mt_extK : MtM X "list.extend" (rExtA K) := h ▸ mt_extA
end
/-! ### t[::-1] -/
section
variable {prog : Program} {w : World} {A : Around} {E : Value → Shared → Prop} {s : Shared}
theorem adj_rev (n : Int) : Builtin.Slice.sliceAdjust none none (-1) n = (n - 1, -1) := by
  unfold Builtin.Slice.sliceAdjust
  simp
theorem places_rev (n : Nat) : Builtin.Slice.slicePlaces ((n : Int) - 1) (-1) (-1) = n := by
  unfold Builtin.Slice.slicePlaces
  rw [if_neg (by decide)]
  split
  · rw [show -(-1 : Int) = 1 from rfl, Int.ediv_one]; omega
  · omega
theorem pick_rev (xs : List Value) : (List.range xs.length).filterMap (fun (m : Nat) => xs.toArray[(((xs.length : Nat) : Int) - 1 + (m : Int) * (-1)).toNat]?) = xs.reverse := by
  have key : ∀ k, k ≤ xs.length → (List.range k).filterMap (fun (m : Nat) => xs.toArray[(((xs.length : Nat) : Int) - 1 + (m : Int) * (-1)).toNat]?) = xs.reverse.take k := by
    intro k
    induction k with
    | zero => intro _; rfl
    | succ k ih =>
      intro hk
      have e : (((xs.length : Nat) : Int) - 1 + (k : Int) * (-1)).toNat = xs.length - 1 - k := by omega
      have g : xs.reverse[k]? = xs[xs.length - 1 - k]? := List.getElem?_reverse hk
      have h2 : xs.length - 1 - k < xs.length := by omega
      rw [List.range_succ, List.filterMap_append, ih (by omega), List.take_add_one, g, List.getElem?_eq_getElem h2]
      congr 1
      rw [List.filterMap_cons, List.filterMap_nil, e]
      simp [h2]
  have := key xs.length (Nat.le_refl _)
  rwa [List.take_of_length_le (by rw [List.length_reverse]; exact Nat.le_refl _)] at this
theorem applied_rev {sl : Addr} {vl vu vs : Value} {n : Nat} {Q : Int × Int × Nat → Shared → Prop} (hs : s.heap.IsSliceOf sl vl vu vs) (pl : IsPart vl none) (pu : IsPart vu none) (ps : IsPart vs (some (-1))) (q : Q ((n : Int) - 1, -1, n) s) :
    wpAny (model prog w) A (Builtin.Slice.sliceApplied (.ref sl) (pure (n : Int))) Q E s := by
  obtain ⟨o, h1, h2, h3⟩ := hs
  unfold Builtin.Slice.sliceApplied Builtin.Slice.sliceFields
  refine wpAny_bind (wpAny_bind (wpAny_field h1 h3 (x := vl) rfl (wpAny_bind (wpAny_field h1 h3 (x := vu) rfl (wpAny_bind (wpAny_field h1 h3 (x := vs) rfl (wpAny_pure ?_)))))))
  refine wpAny_bind (HT.slicePart_ ps ?_)
  show wpAny _ _ (if ((-1 : Int) == 0) = true then _ else _) _ _ s
  rw [if_neg (by decide)]
  refine wpAny_bind (HT.slicePart_ pl (wpAny_bind (HT.slicePart_ pu (wpAny_bind (wpAny_pure ?_)))))
  show wpAny _ _ (match Builtin.Slice.sliceAdjust none none (-1) (n : Int) with | (lo, hi) => pure (lo, (-1 : Int), Builtin.Slice.slicePlaces lo hi (-1))) _ _ s
  rw [adj_rev]
  show wpAny _ _ (pure ((n : Int) - 1, (-1 : Int), Builtin.Slice.slicePlaces ((n : Int) - 1) (-1) (-1))) _ _ s
  rw [places_rev]
  exact wpAny_pure q
theorem getItem_rev {t sl : Addr} {its : List Value} {vl vu vs : Value} {Q : Value → Shared → Prop} (ht : IsTup s.heap t its.toArray) (hs : s.heap.IsSliceOf sl vl vu vs) (pl : IsPart vl none) (pu : IsPart vu none) (ps : IsPart vs (some (-1)))
    (hz : its.length ≤ sizeLine) (q : Q (.ref s.heap.objs.size) { s with heap := s.heap.push { cls := .type "tuple", data := .seq its.reverse.toArray } }) : wpAny (model prog w) A (getItem (.ref t) (.ref sl)) Q E s := by
  have hsz : sizeOk (.seq its.reverse.toArray) := by
    show its.reverse.toArray.size ≤ sizeLine
    rw [List.size_toArray, List.length_reverse]; exact hz
  have isl : s.TypeIs (.ref sl) "slice" := by
    obtain ⟨o, h1, h2, _⟩ := id hs
    exact ⟨o, h1, h2⟩
  unfold getItem
  try with_reducible refine wpAny_holding ?_
  first | refine wpAny_bind (wpAny_pure ?_) | skip
  refine wpAny_bind (wpAny_sequenceKey ht.typeIs (by decide) (wpAny_bind (wpAny_callSpecial?_slot (name := Str.ofString "__getitem__") ht.typeIs PyProof.Rows.slot_tuple_getitem (wpAny_call_entry PyProof.Rows.slot_tuple_getitem ht.typeIs entry_tuple_getitem ?_ (args_tuple_getitem _ _)))))
  show wpAny _ _ (Builtin.Tuple.tupleItemsOf (.ref t) >>= _) _ _ s
  refine wpAny_bind (tupleItemsOf_ ht (wpAny_bind (wpAny_typeOf isl ?_)))
  rw [if_pos (by decide)]
  have e0 : (its.toArray.size : Nat) = its.length := List.size_toArray
  rw [e0]
  refine wpAny_bind (applied_rev hs pl pu ps ?_)
  show wpAny _ _ (if (((its.length : Nat) : Int) - 1 == 0 && (-1 : Int) == 1 && its.length == its.toArray.size) = true then _ else _) _ _ s
  rw [if_neg (by simp), pick_rev]
  first
    | exact wpAny_bind (m := Builtin.Tuple.tupleExact _) (wpAny_newObj_type (wpAny_pure ⟨_, rfl, wpAny_pure q⟩) hsz)
    | exact wpAny_bind (m := Builtin.Tuple.tupleExact _) (wpAny_newObj_type (wpAny_bind (wpAny_pure (wpAny_pure ⟨_, rfl, wpAny_pure q⟩))) hsz)
    | exact wpAny_bind (wpAny_bind (m := Builtin.Tuple.tupleExact _) (wpAny_newObj_type (wpAny_pure (wpAny_pure ⟨_, rfl, wpAny_pure q⟩)) hsz))
end
def tRevT (K : PySem.W.Frag) (te : TE) : TE := fun σ H Q => te σ H fun x H1 => ∃ a xs, x = .ref a ∧ SqT K H1 a xs ∧ ∀ p, H1 p = none → Q (.ref p) (upd H1 p (.tup xs.reverse))
theorem pe_revT (K : PySem.W.Frag) {X : Cx} (hK : X.K = K) {e : Expr} {te : TE} {k : Nat} {p1 p2 p3 pos : Pos} (he : PE X e te) : PE X (.Subscript e (.Slice none none (some (.UnaryOp .USub (.Constant (.int 1) k p1) p2)) p3) pos) (tRevT K te) := by
  subst hK
  refine ⟨fun pins s σ H Q I h => Subscript_ (thn (he.run pins s σ H _ I h) fun v s1 ⟨x, H1, I1, r1, a, xs, ex, hx, q⟩ => ?_)⟩
  subst ex
  cases r1
  have st : PO X (some (.UnaryOp .USub (.Constant (.int 1) k p1) p2)) (tPart (tUn (rU fun i => .int (-i)) (tC (.int 1)))) := po_some (pe_un un_neg pe_int)
  refine wpAny_Slice (thn (po_none.run pins s1 σ H1 (fun o H2 => o = none ∧ H2 = H1) I1 ⟨rfl, rfl⟩) fun v1 s2 ⟨o1, H2, I2, d1, e1, f1⟩ => ?_)
  subst e1 f1
  refine thn (po_none.run pins s2 σ H2 (fun o H3 => o = none ∧ H3 = H2) I2 ⟨rfl, rfl⟩) fun v2 s3 ⟨o2, H3, I3, d2, e2, f2⟩ => ?_
  subst e2 f2
  refine thn (st.run pins s3 σ H3 (fun o H4 => o = some (-1) ∧ H4 = H3) I3 ⟨1, rfl, -1, rfl, rfl, rfl⟩) fun v3 s4 ⟨o3, H4, I4, d3, e3, f3⟩ => ?_
  subst e3 f3
  have J : Inv X pins σ H4 { s4 with heap := s4.heap.push { cls := .type "slice", data := .fields #[v1, v2, v3] } } := I4.kept (t' := s4.toks) fun b ob z => Heap.get?_push_of_some _ z
  obtain ⟨its, r, ht, hz⟩ := J.tuple hx
  show wpAny (model X.prog X.w) X.A (subscriptTail e (.Slice none none (some (.UnaryOp .USub (.Constant (.int 1) k p1) p2)) p3) (.ref a) (.ref s4.heap.objs.size)) (EP X pins σ Q) X.xe { s4 with heap := s4.heap.push { cls := .type "slice", data := .fields #[v1, v2, v3] } }
  refine tail_any (ops := [.ref a, .ref s4.heap.objs.size]) ht.typeIs PyProof.Rows.slot_tuple_getitem.lookup ?_ (by with_unfolding_all rfl)
  refine getItem_rev ht (Heap.IsSliceOf.new _ v1 v2 v3) d1 d2 d3 (by rw [← r.length]; exact hz) ?_
  refine ⟨.ref _, _, J.laid (t' := s4.toks) (o := .tup xs.reverse) (fun b ob z => Heap.get?_push_of_some _ z) (Nat.le_refl _) ?_, rfl, q _ (J.hok.fresh (Nat.le_refl _))⟩
  exact ⟨by rw [List.length_reverse]; exact hz, _, r.reverse, IsTup.new _ _⟩
theorem dps_rev {K : PySem.W.Frag} {H : Hp} : ∀ {vs : List V} {ds : List D}, DpAll K H vs ds → DpAll K H vs.reverse ds.reverse
  | _, _, .nil => .nil
  | _, _, .cons h t => by
    rw [List.reverse_cons, List.reverse_cons]
    exact (dps_rev t).snoc h
theorem ed_revT {K : PySem.W.Frag} {ρ : Rho} {te : TE} {ds : List D} (h : ED K te ρ (.tuple ds)) : ED K (tRevT K te) ρ (.tuple ds.reverse) := fun σ H Hm s l hs Q q =>
  h σ H Hm s l hs _ fun v H1 Hm1 g1 d1 => by
    obtain ⟨a, xs, rfl, hx, ha⟩ := dp_tup d1
    exact ⟨a, xs, rfl, ex_t g1.sub hx, fun p hp => q _ _ _ (g1.trans (Gr.new g1.sub hp)) (.tup (.inl (.inl upd_same)) ((dps_rev ha).mono (Ex.new (fresh_back g1.sub hp))))⟩
end LM
namespace LM
open PySem PySem.Spec PyProof.Rows L2 Evl
section
variable {K : PySem.W.Frag} {ρ : Rho} {ω : Om} {tu : TS} {items : List D} {j : Nat} {r : D}
theorem first_bad {ok : D → Bool} : ∀ {items : List D}, items.all ok = false → ∃ (m : Nat) (d : D), items[m]? = some d ∧ ok d = false ∧ ∀ (i : Nat) (e : D), i < m → items[i]? = some e → ok e = true
  | [], h => by cases h
  | x :: xs, h => by
    cases hx : ok x with
    | false => exact ⟨0, x, rfl, hx, fun i e hi _ => by omega⟩
    | true =>
      rw [List.all_cons, hx, Bool.true_and] at h
      obtain ⟨m, d, h1, h2, h3⟩ := first_bad h
      refine ⟨m + 1, d, by simpa using h1, h2, fun i e hi he => ?_⟩
      cases i with
      | zero =>
        have : x = e := by simpa using he
        rw [← this]; exact hx
      | succ i => exact h3 i e (by omega) (by simpa using he)
/-- for x in xs: if x is bad: return r -/
theorem Go.check {ok : D → Bool} (hj : ∀ d : D, ρ[j]? ≠ some (some d)) (h : ∀ d ∈ items, XD K tu (ρ.set j (some d)) ω (if ok d = true then .nx (ρ.set j (some d)) ω else .rt r)) :
    Go K tu j items (fun _ => ρ) (fun _ => ω) (if items.all ok = true then .nx ρ ω else .rt r) := by
  cases hb : items.all ok with
  | true =>
    rw [if_pos rfl]
    refine Go.allF (fun _ => hj) (fun _ => rfl) fun i d hd => ?_
    have hm := List.mem_of_getElem? hd
    have := h d hm
    rwa [if_pos (List.all_eq_true.mp hb d hm)] at this
  | false =>
    rw [if_neg Bool.false_ne_true]
    obtain ⟨m, d, h1, h2, h3⟩ := first_bad hb
    refine Go.retF (fun _ => hj) h1 (fun i e hi he => ?_) ?_
    · have := h e (List.mem_of_getElem? he)
      rwa [if_pos (h3 i e hi he)] at this
    · have := h d (List.mem_of_getElem? h1)
      rwa [h2, if_neg Bool.false_ne_true] at this
end
/-! ### how large data are -/
mutual
def sz : D → Nat
  | .tuple ds => szs ds + 1
  | .list ds => szs ds + 1
  | .none => 1
  | .bool _ => 1
  | .int _ => 1
  | .str _ => 1
  | .dict _ => 1
def szs : List D → Nat
  | [] => 0
  | d :: ds => sz d + szs ds
end
theorem sz_pos (d : D) : 1 ≤ sz d := by cases d <;> simp [sz]
theorem sz_mem {d : D} : ∀ {ds : List D}, d ∈ ds → sz d ≤ szs ds
  | [], h => by cases h
  | x :: xs, h => by
    rw [szs]
    rcases List.mem_cons.mp h with e | h
    · rw [e]; omega
    · have := sz_mem h; omega
theorem len_szs : ∀ ds : List D, ds.length ≤ szs ds
  | [] => Nat.zero_le _
  | d :: ds => by
    have := sz_pos d
    have := len_szs ds
    rw [szs, List.length_cons]; omega
theorem szs_app : ∀ ds es : List D, szs (ds ++ es) = szs ds + szs es
  | [], es => by simp [szs]
  | d :: ds, es => by rw [List.cons_append, szs, szs, szs_app ds es]; omega
theorem szs_take (ds : List D) (n : Nat) : szs (ds.take n) ≤ szs ds := by
  have h := szs_app (ds.take n) (ds.drop n)
  rw [List.take_append_drop] at h; omega
theorem szs_drop (ds : List D) (n : Nat) : szs (ds.drop n) ≤ szs ds := by
  have h := szs_app (ds.take n) (ds.drop n)
  rw [List.take_append_drop] at h; omega
/-! ### data read as trees -/
mutual
def ofD : D → T
  | .tuple ds => .n (ofDs ds)
  | .list _ => .n []
  | .none => .n []
  | .bool _ => .n []
  | .int _ => .n []
  | .str _ => .n []
  | .dict _ => .n []
def ofDs : List D → List T
  | [] => []
  | d :: ds => ofD d :: ofDs ds
end
theorem ofDs_eq : ∀ ds : List D, ofDs ds = ds.map ofD
  | [] => rfl
  | d :: ds => by rw [ofDs, ofDs_eq ds]; rfl
mutual
theorem ofD_data : ∀ t : T, ofD t.data = t
  | .n ts => by rw [T.data, ofD, ofDs_datas ts]
theorem ofDs_datas : ∀ ts : List T, ofDs (T.datas ts) = ts
  | [] => by rw [T.datas, ofDs]
  | t :: ts => by rw [T.datas, ofDs, ofD_data t, ofDs_datas ts]
end
theorem ofDs_map (ts : List T) : (ts.map T.data).map ofD = ts := by rw [← ofDs_eq, ← T.datas_eq, ofDs_datas]
/-- consecutive ones compared -/
def zl : List T → List Bool
  | [] => []
  | [_] => []
  | x :: y :: r => T.lt x y :: zl (y :: r)
def ascB (ts : List T) : Bool := (zl ts).all id
theorem ascB_iff : ∀ ts : List T, ascB ts = true ↔ T.Asc ts
  | [] => by simp [ascB, zl, T.Asc]
  | [x] => by simp [ascB, zl, T.Asc]
  | x :: y :: r => by
    have ih := ascB_iff (y :: r)
    have e : ascB (x :: y :: r) = (T.lt x y && ascB (y :: r)) := by unfold ascB; rw [zl, List.all_cons]; rfl
    rw [e, Bool.and_eq_true, ih]
    unfold T.Asc
    rw [List.pairwise_cons (a := x)]
    constructor
    · rintro ⟨h1, h2⟩
      refine ⟨fun z hz => ?_, h2⟩
      rcases List.mem_cons.mp hz with e | hz
      · rw [e]; exact h1
      · exact T.lt_trans h1 ((List.pairwise_cons.mp h2).1 z hz)
    · rintro ⟨h1, h2⟩
      exact ⟨h1 y List.mem_cons_self, h2⟩
def okRow (g : D → Bool) : D → Bool
  | .tuple gs => gs.all g && ascB (gs.map ofD)
  | _ => false
def okG : Nat → D → Bool
  | 0, _ => false
  | f + 1, d => match d with
    | .tuple [a, b] => okRow (okG f) a && okRow (okG f) b
    | _ => false
theorem okRow_T {g : D → Bool} {m : Nat} (h : ∀ d, g d = true → d = (ofD d).data ∧ (ofD d).depth ≤ m) {d : D} (hd : okRow g d = true) : ∃ ts : List T, d = .tuple (ts.map T.data) ∧ ts = (match d with | .tuple gs => gs.map ofD | _ => []) ∧ T.depths ts ≤ m ∧ ascB ts = true := by
  cases d with
  | tuple gs =>
    simp only [okRow, Bool.and_eq_true, List.all_eq_true] at hd
    refine ⟨gs.map ofD, ?_, rfl, ?_, hd.2⟩
    · congr 1
      rw [List.map_map]
      conv => lhs; rw [← List.map_id gs]
      exact List.map_congr_left fun d hx => (h d (hd.1 d hx)).1
    · refine T.depths_le fun t ht => ?_
      obtain ⟨d, hx, rfl⟩ := List.mem_map.mp ht
      exact (h d (hd.1 d hx)).2
  | _ => simp [okRow] at hd
theorem okG_T : ∀ (f : Nat) (d : D), okG f d = true → d = (ofD d).data ∧ (ofD d).depth ≤ 2 * f
  | 0, d, h => by simp [okG] at h
  | f + 1, d, h => by
    unfold okG at h
    split at h
    · rename_i a b
      rw [Bool.and_eq_true] at h
      obtain ⟨ls, rfl, -, d1, -⟩ := okRow_T (okG_T f) h.1
      obtain ⟨rs, rfl, -, d2, -⟩ := okRow_T (okG_T f) h.2
      have e : ofD (.tuple [.tuple (ls.map T.data), .tuple (rs.map T.data)]) = .n [.n ls, .n rs] := by
        rw [ofD, ofDs, ofDs, ofDs, ofD, ofD, ofDs_eq, ofDs_eq, ofDs_map, ofDs_map]
      rw [e]
      refine ⟨by rw [T.data_n, List.map_cons, List.map_cons, List.map_nil, T.data_n, T.data_n], ?_⟩
      simp only [T.depth, T.depths]
      omega
    · cases h
end LM
namespace LM
open PySem PySem.Spec PyProof.Rows L2 Evl
section
variable {K : PySem.W.Frag} {ρ : Rho} {ω : Om} {tu w : TS} {tl te : TE} {tt : TT} {items : List D} {j : Nat} {r : D} {o : Out}
theorem xd_checkT (ok : D → Bool) (r : D) (hsrc : ED K tl (vw ρ ω) (.tuple items)) (hd : ω = none ∨ imms items = true := by first | exact .inl rfl | exact .inr (by rfl) | exact .inr (by assumption)) (hw : ∀ q, ω = some q → q.1 ≠ j := by first | (intro _ h; cases h; done) | (intro _ h; cases h; decide)) (hj : ∀ d : D, ρ[j]? ≠ some (some d) := by simp)
    (turn : ∀ d ∈ items, XD K tu (ρ.set j (some d)) ω (if ok d = true then .nx (ρ.set j (some d)) ω else .rt r)) (rest : items.all ok = true → XD K w ρ ω o) (fin : items.all ok = false → o = .rt r) : XD K (tSeq (tFor (iTup K tl) (gName j) tu) w) ρ ω o := by
  have g := Go.check hj turn
  cases hb : items.all ok with
  | true =>
    rw [hb, if_pos rfl] at g
    exact xd_seq (xd_forT (fun _ => ρ) (fun _ => ω) hsrc hd rfl rfl (fun _ => hw) g) (rest hb)
  | false =>
    rw [hb, if_neg Bool.false_ne_true] at g
    rw [fin hb]
    exact xd_seq_rt (xd_forT (fun _ => ρ) (fun _ => ω) hsrc hd rfl rfl (fun _ => hw) g)
theorem xd_checkL (ok : D → Bool) (r : D) (hsrc : ED K tl ρ (.list items)) (hw : ∀ q, ω = some q → q.1 ≠ j := by first | (intro _ h; cases h; done) | (intro _ h; cases h; decide)) (hj : ∀ d : D, ρ[j]? ≠ some (some d) := by simp)
    (turn : ∀ d ∈ items, XD K tu (ρ.set j (some d)) ω (if ok d = true then .nx (ρ.set j (some d)) ω else .rt r)) (rest : items.all ok = true → XD K w ρ ω o) (fin : items.all ok = false → o = .rt r) : XD K (tSeq (tFor (iList K tl) (gName j) tu) w) ρ ω o := by
  have g := Go.check hj turn
  cases hb : items.all ok with
  | true =>
    rw [hb, if_pos rfl] at g
    exact xd_seq (xd_forL (fun _ => ρ) (fun _ => ω) hsrc rfl rfl (fun _ => hw) g) (rest hb)
  | false =>
    rw [hb, if_neg Bool.false_ne_true] at g
    rw [fin hb]
    exact xd_seq_rt (xd_forL (fun _ => ρ) (fun _ => ω) hsrc rfl rfl (fun _ => hw) g)
/-- if bad: return r -/
theorem xd_guard {ok : Bool} (h : ET K tt (vw ρ ω) (!ok)) (hr : ED K te (vw ρ ω) r) : XD K (tIfS tt (tRet te) tNext) ρ ω (if ok = true then .nx ρ ω else .rt r) := by
  cases ok with
  | true => exact xd_ifF h xd_next
  | false => exact xd_ifT h (xd_ret hr)
/-- .. with more behind -/
theorem xd_guards {ok ok2 : Bool} {ρ2 : Rho} {ω2 : Om} (h : ET K tt (vw ρ ω) (!ok)) (hr : ED K te (vw ρ ω) r) (k : ok = true → XD K w ρ ω (if ok2 = true then .nx ρ2 ω2 else .rt r)) : XD K (tSeq (tIfS tt (tRet te) tNext) w) ρ ω (if (ok && ok2) = true then .nx ρ2 ω2 else .rt r) := by
  cases ok with
  | true => exact xd_seq (xd_ifF h xd_next) (by simpa using k rfl)
  | false => exact xd_seq_rt (xd_ifT h (xd_ret hr))
end
end LM
namespace LM
theorem cut_from1 {α : Type} (xs : List α) : cut xs (some 1) none = xs.drop 1 := cut_from xs 1
end LM
namespace LM
open PySem PySem.Spec PyProof.Rows L2 Evl
theorem ed_rd_is {K : PySem.W.Frag} {r : R2} {a b c d : D} (h : RD K r a b c) (e : c = d) : RD K r a b d := e ▸ h
theorem ed_B_is {K : PySem.W.Frag} {ρ : Rho} {tt : TT} {x y : Bool} (h : ET K tt ρ x) (e : x = y) : ET K tt ρ y := e ▸ h
end LM
namespace LM
open PySem PySem.Spec PyProof.Rows L2 Evl
theorem et_andF {K : PySem.W.Frag} {ρ : Rho} {t u : TT} {x : Bool} (h : ET K t ρ x) (e : x = false) : ET K (tAnd t u) ρ false := by
  subst e
  exact et_and (x := false) (y := false) h fun z => by cases z
theorem et_orT {K : PySem.W.Frag} {ρ : Rho} {t u : TT} {x : Bool} (h : ET K t ρ x) (e : x = true) : ET K (tOr t u) ρ true := by
  subst e
  exact et_or (x := true) (y := true) h fun z => by cases z
end LM
namespace LM
open PySem PySem.Spec PyProof.Rows L2 Evl
/-- a def's promise at its own address -/
theorem fn_of {P : Program} {w : World} {K : PySem.W.Frag} {mg : Str → Option Value} {base : Heap} {x : Str} {st : Stmt} {f : Addr} {fd : FuncData} {N ps : List Str} {k : Nat} {R : List D → D → Prop} (F : Fun K x x st f fd) (S : FnScope N ps (defScope st)) (hN : ps.length ≤ N.length) (len : ∀ ds r, R ds r → ds.length = ps.length)
    (hbody : ∀ (cdv : Value) (A : Around) (outer : List Env) (s : Shared) (H : Hp) (E : XK), Room k (A.deeper (envOfC x (defScope st) s.heap.objs.size f cdv)) →
      ∃ t, PSs (cxOf CX0 P w K mg base N x (defScope st) f cdv A outer s H E).nox (defBody st) t ∧ ∀ ds r, R ds r → XD K t (startR N ds) none (.rt r)) : FnOk P w K mg base CX0 (k + 1) f fd ps (SpR K R) := by
  refine F.ok S (fun vs H Q E h => ?_) (fun cdv A outer s H vs Q E hr h => ?_)
  · obtain ⟨ds, r, Hm, _, hd, hR, _⟩ := h
    rw [hd.len, len ds r hR]
  · obtain ⟨t, h1, h2⟩ := hbody cdv A outer s H E hr
    obtain ⟨ds, r, Hm, s1, hd, hR, q⟩ := h
    have hl := len ds r hR
    refine ⟨t, h1, h2 ds r hR H Hm _ (L2.start N vs) H Hm ⟨Gr.refl s1, ?_, start_sd hd, trivial⟩ fun v H' Hm' g hv => q v H' Hm' g hv⟩
    rw [startR_len (by omega)]
    have := hd.len
    unfold L2.start
    rw [List.length_append, List.length_map, List.length_replicate]
    omega
end LM

set_option Elab.async false
set_option linter.all false
set_option maxRecDepth 100000
set_option maxHeartbeats 1000000
/-! LmX: errors of own classes, by data: defs that hand back a value or let an error out; raise; try. -/
namespace LM
open PySem PySem.Spec PyProof.Rows L2 Evl
/-- an error's class, as the top knows it -/
structure XCls (K : PySem.W.Frag) (mg : Str → Option Value) (x : Str) (C : Addr) : Prop where
  gC : mg x = some (.ref C)
  kC : PySem.W.keepIn K (.ref C) = true
  xC : PySem.W.excIn K C [.type "ValueError", .type "Exception", .type "BaseException", .type "object"] "ValueError.__new__" = true
  bC : PySem.W.subIn K (.ref C) (.type "BaseException") = some true
  tC : PySem.W.typeIn K (.ref C) = some (.type "type")
  dC : PySem.W.hasDictIn K C = true
abbrev Res := D ⊕ Addr
def ResOk (K : PySem.W.Frag) (H Hm : Hp) (Q : VK) (E : XK) : Res → Prop
  | .inl r => ∀ v H2 Hm2, Gr H Hm H2 Hm2 → Dp K Hm2 v r → Q v H2
  | .inr C => ∀ H2 Hm2, Gr H Hm H2 Hm2 → E (.ref C) none H2
/-- a promise: a value, or an error -/
def SpX (K : PySem.W.Frag) (R : List D → Res → Prop) : Sp := fun vs H Q E => ∃ ds o Hm, Ex Hm H ∧ DpAll K Hm vs ds ∧ R ds o ∧ ResOk K H Hm Q E o
structure HasX (P : Program) (w : World) (K : PySem.W.Frag) (mg : Str → Option Value) (base : Heap) (k : Nat) (x : Str) (sp : Sp) : Prop where
  ex : ∃ f fd ps, FnOk P w K mg base (L2.CX P w) k f fd ps sp ∧ mg x = some (.ref f) ∧ PySem.W.keepIn K (.ref f) = true ∧ Binds K fd ps []
theorem HasX.mono {P : Program} {w : World} {K : PySem.W.Frag} {mg : Str → Option Value} {base : Heap} {j k : Nat} {x : Str} {sp : Sp} (h : HasX P w K mg base j x sp) (hk : j ≤ k) : HasX P w K mg base k x sp :=
  let ⟨f, fd, ps, F, a, b, c⟩ := h.ex
  ⟨f, fd, ps, F.mono hk, a, b, c⟩
theorem passX0 {X : Cx} : Passes (L2.CX X.prog X.w) X E0 := fun _ _ _ _ _ _ _ h => by
  obtain ⟨_, _, _, _, _, _, _, _, _, _, _, _, h⟩ := h
  exact h.elim
section
variable {X : Cx} {k j : Nat} {x : Str} {sp : Sp} {e : Expr} {es : List Expr} {p pos : Pos} {t : TA}
/-- a call that hands back a value -/
theorem pe_hx (c : HasX X.prog X.w X.K X.mg X.base k x sp) (hr : Room j X.A) (hk : k ≤ j) (hg : Gl X x) (ha : PA X (e :: es) t)
    (hd : (x == ("__debug__" : Str)) = false := by decide) (hs : starEach (e :: es) X.env = (false, eval e X.env) :: starEach es X.env := by rfl) (hpl : (backTo pos (starEach es X.env)).any (·.1) = false := by rfl) :
    PE X (.Call (.Name x p) (e :: es) [] pos) (tCall sp [] E0 t) := by
  obtain ⟨f, fd, ps, F, hm, kp, b⟩ := c.ex
  exact pe_call F (hr.mono hk) hg hm kp b .nil passX0 ha (hdb := hd) (he := hs) (hpl := hpl)
/-- .. that may let an error out -/
theorem pe_hs {W : WX} (c : HasX X.prog X.w X.K X.mg X.base k x sp) (tk : Takes X W) (hr : Room j X.A) (hk : k ≤ j) (hg : Gl X x) (ha : PA X (e :: es) t)
    (hd : (x == ("__debug__" : Str)) = false := by decide) (hs : starEach (e :: es) X.env = (false, eval e X.env) :: starEach es X.env := by rfl) (hpl : (backTo pos (starEach es X.env)).any (·.1) = false := by rfl) :
    PE X (.Call (.Name x p) (e :: es) [] pos) (tCallS sp (WE W) t) := by
  obtain ⟨f, fd, ps, F, hm, kp, b⟩ := c.ex
  exact pe_callS F (hr.mono hk) hg hm kp b (fun σ => passAt tk σ) ha (hdb := hd) (he := hs) (hpl := hpl)
/-- raise x('m') -/
def tRaise (W : WX) (C : Addr) : TS := fun _ σ H => W (.ref C) none σ H
theorem ps_raiseC {W : WX} {C : Addr} {m : Str} {jj : Nat} {p2 pos2 : Pos} (hc : X.calm = true) (tk : Takes X W) (T : XCls X.K X.mg x C) (hg : Gl X x) (hdb : (x == ("__debug__" : Str)) = false := by decide) :
    PS X (.Raise (some (.Call (.Name x p) [.Constant (.str m) jj p2] [] pos)) none pos2) (tRaise W C) :=
  ps_raise hc tk (pmk_own PySem.F.excBase_ValueError T.xC T.gC T.kC (raises_own T.bC T.tC) hg hdb)
end
section
variable {K : PySem.W.Frag} {ρ ρ' ρ2 : Rho} {ω ω' ω2 : Om} {o : Out} {t u : TS} {te : TE} {ta : TA} {tt : TT} {d : D} {ds : List D} {i j : Nat} {W : WX} {C : Addr}
/-- a value of a call with a promise SpX -/
theorem ed_callX {R : List D → Res → Prop} {E : XK} (h : EDs K ta ρ ds) (hr : R ds (.inl d)) : ED K (tCall (SpX K R) [] E ta) ρ d := fun σ H Hm s l hs Q q =>
  h σ H Hm s l hs _ fun xs H1 Hm1 g1 h1 => by
    show SpX K R (xs ++ []) H1 Q E
    rw [List.append_nil]
    exact ⟨ds, .inl d, Hm1, g1.sub, h1, hr, fun v H2 Hm2 g2 h2 => q v H2 Hm2 (g1.trans g2) h2⟩
theorem ed_callS {R : List D → Res → Prop} {E : L2.St → XK} (h : EDs K ta ρ ds) (hr : R ds (.inl d)) : ED K (tCallS (SpX K R) E ta) ρ d := fun σ H Hm s l hs Q q =>
  h σ H Hm s l hs _ fun xs H1 Hm1 g1 h1 => ⟨ds, .inl d, Hm1, g1.sub, h1, hr, fun v H2 Hm2 g2 h2 => q v H2 Hm2 (g1.trans g2) h2⟩
/-- an expression that lets an error out -/
def ER (K : PySem.W.Frag) (W : WX) (C : Addr) (te : TE) (ρ : Rho) : Prop := ∀ σ H Hm, Ex Hm H → ρ.length ≤ σ.length → Sd K Hm σ ρ → (∀ H2 Hm2, Gr H Hm H2 Hm2 → W (.ref C) none σ H2) → ∀ Q : VK, te σ H Q
theorem er_callS {R : List D → Res → Prop} (h : EDs K ta ρ ds) (hr : R ds (.inr C)) : ER K W C (tCallS (SpX K R) (WE W) ta) ρ := fun σ H Hm s l hs q Q =>
  h σ H Hm s l hs _ fun xs H1 Hm1 g1 h1 => ⟨ds, .inr C, Hm1, g1.sub, h1, hr, fun H2 Hm2 g2 => q H2 Hm2 (g1.trans g2)⟩
/-- a statement that lets an error out, the slots then -/
def XR (K : PySem.W.Frag) (W : WX) (C : Addr) (ts : TS) (ρ : Rho) (ω : Om) (ρ' : Rho) : Prop := ∀ H0 Hm0 E σ H Hm, Stt K H0 Hm0 H Hm σ ρ ω → (∀ σ' H' Hm', Stt K H0 Hm0 H' Hm' σ' ρ' none → W (.ref C) none σ' H') → ts E σ H
theorem Stt.unown {H0 Hm0 H Hm : Hp} {σ : L2.St} (S : Stt K H0 Hm0 H Hm σ ρ ω) : Stt K H0 Hm0 H Hm σ ρ none := ⟨S.gr, S.len, S.sd, trivial⟩
theorem xr_raise : XR K W C (tRaise W C) ρ ω ρ := fun H0 Hm0 E σ H Hm S q => q σ H Hm S.unown
theorem xr_seq1 (h : XR K W C t ρ ω ρ') : XR K W C (tSeq t u) ρ ω ρ' := fun H0 Hm0 E σ H Hm S q => h H0 Hm0 _ σ H Hm S q
theorem xr_seq (h : XD K t ρ ω (.nx ρ2 ω2)) (k : XR K W C u ρ2 ω2 ρ') : XR K W C (tSeq t u) ρ ω ρ' := fun H0 Hm0 E σ H Hm S q =>
  h H0 Hm0 _ σ H Hm S fun σ' H' Hm' x S' => k H0 Hm0 E σ' H' Hm' S' q
theorem xr_if {b : Bool} (h : ET K tt (vw ρ ω) b) (h1 : b = true → XR K W C t ρ ω ρ') (h2 : b = false → XR K W C u ρ ω ρ') : XR K W C (tIfS tt t u) ρ ω ρ' := fun H0 Hm0 E σ H Hm S q => by
  obtain ⟨Hv, s1, s2, s3, s4, s5, s6⟩ := S.view
  refine h σ H Hv s1 s4 s3 _ fun H2 Hv2 g => ?_
  obtain ⟨Hm2, em, S2, back⟩ := S.hide s2 s6 g
  cases b with
  | true => exact h1 rfl H0 Hm0 E σ H2 Hm2 S2 q
  | false => exact h2 rfl H0 Hm0 E σ H2 Hm2 S2 q
theorem xr_ifT (h : ET K tt (vw ρ ω) true) (h1 : XR K W C t ρ ω ρ') : XR K W C (tIfS tt t u) ρ ω ρ' := xr_if h (fun _ => h1) (fun z => nomatch z)
theorem xr_ifF (h : ET K tt (vw ρ ω) false) (h1 : XR K W C u ρ ω ρ') : XR K W C (tIfS tt t u) ρ ω ρ' := xr_if h (fun z => nomatch z) (fun _ => h1)
theorem xr_drop (h : ER K W C te ρ) : XR K W C (tDrop te) ρ ω ρ := fun H0 Hm0 E σ H Hm S q =>
  h σ H Hm S.gr.sub S.len S.sd (fun H2 Hm2 g => q σ H2 Hm2 (S.grow g).unown) _
theorem xr_asg {g : TG} (h : ER K W C te ρ) : XR K W C (tAsg te g) ρ ω ρ := fun H0 Hm0 E σ H Hm S q =>
  h σ H Hm S.gr.sub S.len S.sd (fun H2 Hm2 g => q σ H2 Hm2 (S.grow g).unown) _
theorem xr_ret (h : ER K W C te ρ) : XR K W C (tRet te) ρ ω ρ := fun H0 Hm0 E σ H Hm S q =>
  h σ H Hm S.gr.sub S.len S.sd (fun H2 Hm2 g => q σ H2 Hm2 (S.grow g).unown) _
theorem xd_drop (h : ED K te (vw ρ ω) d) : XD K (tDrop te) ρ ω (.nx ρ ω) := fun H0 Hm0 E σ H Hm S f => by
  obtain ⟨Hv, s1, s2, s3, s4, s5, s6⟩ := S.view
  refine h σ H Hv s1 s4 s3 _ fun v H2 Hv2 g hv => ?_
  obtain ⟨Hm2, em, S2, back⟩ := S.hide s2 s6 g
  exact f σ H2 Hm2 em S2
/-- while: m turns go through, turn m lets an error out -/
theorem xr_while {tu : TS} (ρs : Nat → Rho) (ωs : Nat → Om) (m : Nat) (h0 : ρs 0 = ρ) (h0' : ωs 0 = ω) (h1 : ∀ i, i < m → ET K tt (vw (ρs i) (ωs i)) true ∧ XD K tu (ρs i) (ωs i) (.nx (ρs (i + 1)) (ωs (i + 1))))
    (h2 : ET K tt (vw (ρs m) (ωs m)) true ∧ XR K W C tu (ρs m) (ωs m) ρ') : XR K W C (tWhile tt tu) ρ ω ρ' := fun H0 Hm0 E σ H Hm S q => by
  refine ⟨fun k σ' H' => ∃ i, i + k = m ∧ ∃ Hm', Ex Hm Hm' ∧ Stt K H0 Hm0 H' Hm' σ' (ρs i) (ωs i), ⟨m, 0, by omega, Hm, Ex.refl _, by rw [h0, h0']; exact S⟩, ?_⟩
  rintro k σ1 H1 ⟨i, hik, Hm1, e1, S1⟩
  obtain ⟨Hv, s1, s2, s3, s4, s5, s6⟩ := S1.view
  by_cases hlt : i < m
  · obtain ⟨c1, c2⟩ := h1 i hlt
    refine c1 σ1 H1 Hv s1 s4 s3 _ fun H2 Hv2 g => ?_
    obtain ⟨Hm2, em, S2, back⟩ := S1.hide s2 s6 g
    simp only [if_true]
    exact ⟨_, fun σ' H' hN => hN, c2 H0 Hm0 { E with nx := fun σ' H' => ∃ m', m' < k ∧ ∃ i', i' + m' = m ∧ ∃ Hm', Ex Hm Hm' ∧ Stt K H0 Hm0 H' Hm' σ' (ρs i') (ωs i'), ct := fun σ' H' => ∃ m', m' < k ∧ ∃ i', i' + m' = m ∧ ∃ Hm', Ex Hm Hm' ∧ Stt K H0 Hm0 H' Hm' σ' (ρs i') (ωs i'), bk := E.nx } σ1 H2 Hm2 S2 fun σ' H' Hm' x S' => ⟨k - 1, by omega, i + 1, by omega, Hm', (e1.trans em).trans x, S'⟩⟩
  · have e : i = m := by omega
    subst e
    obtain ⟨c1, c2⟩ := h2
    refine c1 σ1 H1 Hv s1 s4 s3 _ fun H2 Hv2 g => ?_
    obtain ⟨Hm2, em, S2, back⟩ := S1.hide s2 s6 g
    simp only [if_true]
    exact ⟨fun _ _ => False, fun _ _ z => z.elim, c2 H0 Hm0 { E with nx := fun _ _ => False, ct := fun _ _ => False, bk := E.nx } σ1 H2 Hm2 S2 q⟩
/-! ### try -/
theorem xd_tryV {c : Value} {tb : WX → TS} {ts : Addr → Value → Option Addr → TS} {Wout : WX} (h : ∀ W : WX, XD K (tb W) ρ ω o) : XD K (fun D σ H => tb (wOnly K c ts Wout D) D σ H) ρ ω o := fun H0 Hm0 E σ H Hm S f => h _ H0 Hm0 E σ H Hm S f
theorem xd_tryX {c : Value} {tb : WX → TS} {ts : Addr → Value → Option Addr → TS} {Wout : WX} (h : ∀ W : WX, XR K W C (tb W) ρ ω ρ') (hm : PySem.W.exmOne K (.ref C) c = some true) (k : ∀ a, XD K (ts a (.ref C) none) ρ' none (.rt d)) : XD K (fun D σ H => tb (wOnly K c ts Wout D) D σ H) ρ ω (.rt d) := fun H0 Hm0 E σ H Hm S f =>
  h _ H0 Hm0 E σ H Hm S fun σ' H' Hm' S' => ⟨true, hm, fun _ a _ => k a H0 Hm0 E σ' H' Hm' S' f, fun z => nomatch z⟩
theorem xd_tryAsV {c : Value} {tb : WX → TS} {ts : Addr → Value → Option Addr → TS} {Wout : WX} (h : ∀ W : WX, XD K (tb W) ρ ω o) : XD K (fun D σ H => tb (wAs K c i ts Wout D) D σ H) ρ ω o := fun H0 Hm0 E σ H Hm S f => h _ H0 Hm0 E σ H Hm S f
/-- the suite hands back d; slot i holds the error -/
theorem xd_tryAsX {c : Value} {tb : WX → TS} {ts : Addr → Value → Option Addr → TS} {Wout : WX} (h : ∀ W : WX, XR K W C (tb W) ρ ω ρ') (hm : PySem.W.exmOne K (.ref C) c = some true) (hi : i < ρ'.length)
    (k : ∀ (a : Addr) H0 Hm0 (D : Ends) σ H Hm, Stt K H0 Hm0 H Hm σ (ρ'.set i none) none → σ[i]? = some (some (.ref a)) → (∀ v H Hm, Gr H0 Hm0 H Hm → Dp K Hm v d → D.rt v H) → ts a (.ref C) none D σ H) : XD K (fun D σ H => tb (wAs K c i ts Wout D) D σ H) ρ ω (.rt d) := fun H0 Hm0 E σ H Hm S f =>
  h _ H0 Hm0 E σ H Hm S fun σ' H' Hm' S' => ⟨true, hm, fun _ a _ => k a H0 Hm0 _ _ H' Hm' ⟨S'.gr, by rw [List.length_set, List.length_set]; exact S'.len, S'.sd.drop i _, trivial⟩ (List.getElem?_set_self (Nat.lt_of_lt_of_le hi S'.len)) f, fun z => nomatch z⟩
end
/-- isinstance(e, c) of the error that is held, its class told by the reading -/
def rIsX (K : PySem.W.Frag) (cls : Value) (d : Option Addr) (a : Addr) : List V → Hp → VK → Prop := fun xs H Q => ∃ D, cls = .ref D ∧ d = none ∧ ExcC K D ∧ rIsE K D a xs H Q
theorem call_isX (K : PySem.W.Frag) {X : Cx} (hK : X.K = K) {a : Addr} {oe : Obj} {cls : Value} {d : Option Addr} {pn : List (Addr × Obj)} (hz : Zc cls d oe) (hf : ∃ vs, oe.data = .fields vs) : CallR (X.suite a ((a, oe) :: pn)) (.builtin "isinstance") (rIsX K cls d a) := by
  subst hK
  intro pins s σ H xs us Q I r h
  obtain ⟨D, rfl, rfl, C, h⟩ := h
  exact call_isE C hz hf pins s σ H xs us Q I r h
/-- a def that may let an error out -/
theorem hasX_of {P : Program} {w : World} {K : PySem.W.Frag} {mg : Str → Option Value} {base : Heap} {x : Str} {st : Stmt} {f : Addr} {fd : FuncData} {N ps : List Str} {k : Nat} {R : List D → Res → Prop} (F : Fun K x x st f fd) (b : Binds K fd ps []) (hm : mg x = some (.ref f)) (S : FnScope N ps (defScope st)) (hN : ps.length ≤ N.length)
    (len : ∀ ds o, R ds o → ds.length = ps.length)
    (hbody : ∀ (cdv : Value) (A : Around) (outer : List Env) (s : Shared) (H : Hp) (E : XK), Room k (A.deeper (envOfC x (defScope st) s.heap.objs.size f cdv)) →
      ∃ t, PSs (cxOf (L2.CX P w) P w K mg base N x (defScope st) f cdv A outer s H E) (defBody st) t ∧ ∀ ds o, R ds o → match o with
        | .inl r => XD K t (startR N ds) none (.rt r)
        | .inr C => ∃ ρ', XR K (fun cls d _ H => E cls d H) C t (startR N ds) none ρ') : HasX P w K mg base (k + 1) x (SpX K R) := by
  refine ⟨f, fd, ps, F.okX S (fun vs H Q E h => ?_) (fun cdv A outer s H vs Q E hr h => ?_), hm, F.kp, b⟩
  · obtain ⟨ds, r, Hm, _, hd, hR, _⟩ := h
    rw [hd.len, len ds r hR]
  · obtain ⟨t, h1, h2⟩ := hbody cdv A outer s H E hr
    obtain ⟨ds, r, Hm, s1, hd, hR, q⟩ := h
    have hl := len ds r hR
    have S0 : Stt K H Hm H Hm (L2.start N vs) (startR N ds) none := by
      refine ⟨Gr.refl s1, ?_, start_sd hd, trivial⟩
      rw [startR_len (by omega)]
      have := hd.len
      unfold L2.start
      rw [List.length_append, List.length_map, List.length_replicate]
      omega
    refine ⟨t, h1, ?_⟩
    have h3 := h2 ds r hR
    cases r with
    | inl r => exact h3 H Hm _ (L2.start N vs) H Hm S0 fun v H' Hm' g hv => q v H' Hm' g hv
    | inr C =>
      obtain ⟨ρ', h3⟩ := h3
      exact h3 H Hm _ (L2.start N vs) H Hm S0 fun σ' H' Hm' S' => q H' Hm' S'.gr
end LM

set_option Elab.async false
set_option linter.all false
set_option maxRecDepth 100000
set_option maxHeartbeats 1000000
/-! LmY: texts, None, while by turns. -/
namespace LM
open PySem PySem.Spec PyProof.Rows L2 Evl
/-! ### text * int -/
def rep : Nat → Str → Str
  | 0, _ => Str.empty
  | k + 1, z => z ++ rep k z
theorem rep_fold (z : Str) : ∀ (k : Nat) (a : Array Nat), (List.replicate k z.cps).foldl (· ++ ·) a = a ++ (rep k z).cps
  | 0, a => by simp [rep, Str.empty]
  | k + 1, a => by
    rw [List.replicate_succ, List.foldl_cons, rep_fold z k]
    show a ++ z.cps ++ (rep k z).cps = a ++ (z.cps ++ (rep k z).cps)
    rw [Array.append_assoc]
theorem rep_len (z : Str) : ∀ k : Nat, (rep k z).length = k * z.length
  | 0 => by simp [rep, Str.empty, Str.length]
  | k + 1 => by rw [rep, Str.length_append, rep_len z k, Nat.succ_mul]; omega
theorem rep_one (z : Str) : rep 1 z = z := by
  show z ++ Str.empty = z
  exact Str.append_empty z
theorem rep_nil {z : Str} (h : z.length = 0) (k : Nat) : rep k z = z := by
  have e : z = Str.empty := by
    refine Str.ext' ?_
    show z.cps = #[]
    exact Array.eq_empty_of_size_eq_zero h
  subst e
  induction k with
  | zero => rfl
  | succ k ih => rw [rep, ih, Str.empty_append]
def rMulS : R2 := fun x y H Q => ∃ (z : Str) (n : Int), x = .str z ∧ y = .int n ∧ 0 ≤ n ∧ n ≤ 1000 ∧ z.length ≤ 1000 ∧ Q (.str (rep n.toNat z)) H
section
variable {X : Cx}
theorem op_mulS : OpR X (binaryOp .Mult) rMulS := by
  intro pins s σ H x y v u Q I rx ry ⟨z, n, ex, ey, h0, h1, hz, q⟩
  subst ex ey
  obtain ⟨t, rfl⟩ := rx
  obtain ⟨t', rfl⟩ := ry
  have big : z.length * n.toNat ≤ 1000000 := Nat.mul_le_mul hz (by omega : n.toNat ≤ 1000)
  refine PySem.P.mul_str ?_ (fun c _ => ?_) (fun c _ => ?_) ?_
  · rw [decide_eq_false (by omega), decide_eq_false (by omega)]; rfl
  · have h2 : (1000 : Int) ≤ (2 ^ 63 - 1) / n := by
      rw [Int.le_ediv_iff_mul_le (by omega)]
      have : (1000 : Int) * n ≤ 1000 * 1000 := Int.mul_le_mul_of_nonneg_left h1 (by decide)
      omega
    omega
  · unfold Builtin.Str.tooLong
    exact decide_eq_false (by rw [sizeLine_eq]; omega)
  · by_cases c : n < 1
    · rw [if_pos c]
      have e : n.toNat = 0 := by omega
      rw [e] at q
      exact ⟨by decide, ⟨.str Str.empty, H, I.tok _, ⟨_, rfl⟩, q⟩⟩
    · rw [if_neg c]
      by_cases d : (n == 1 || z.length == 0) = true
      · rw [if_pos d]
        have e : rep n.toNat z = z := by
          rw [Bool.or_eq_true, beq_iff_eq, beq_iff_eq] at d
          rcases d with d | d
          · rw [d]; exact rep_one z
          · exact rep_nil d _
        rw [e] at q
        exact ⟨.str z, H, I, ⟨_, rfl⟩, q⟩
      · rw [if_neg d]
        have e : (⟨(List.replicate n.toNat z.cps).foldl (· ++ ·) #[]⟩ : Str) = rep n.toNat z := Str.ext' (by
          show (List.replicate n.toNat z.cps).foldl (· ++ ·) #[] = _
          rw [rep_fold]; simp)
        rw [e]
        refine ⟨?_, ⟨.str (rep n.toNat z), H, I.tok _, ⟨_, rfl⟩, q⟩⟩
        rw [rep_len, Nat.mul_comm, sizeLine_eq]
        omega
end
abbrev rMulV (K : PySem.W.Frag) : R2 := orR (rMulU K) rMulS
theorem op_mulVK (K : PySem.W.Frag) {X : Cx} (h : X.K = K) : OpR X (binaryOp .Mult) (rMulV K) := (op_mulK K h).or op_mulS
section
variable {K : PySem.W.Frag} {ρ ρ' : Rho} {ω ω' : Om} {o : Out} {te to : TE} {tt : TT} {tu : TS} {d : D} {a b c : D}
theorem rd_mulV (h : RD K (rMulU K) a b c) : RD K (rMulV K) a b c := rd_l h
theorem rd_mulS {z : Str} {n : Int} (h0 : 0 ≤ n) (h1 : n ≤ 1000) (hz : z.length ≤ 1000) : RD K (rMulV K) (.str z) (.int n) (.str (rep n.toNat z)) := fun H Hm x y s hx hy Q q =>
  .inr ⟨z, n, dp_str hx, dp_int hy, h0, h1, hz, q _ H Hm (Gr.refl s) (.str _)⟩
/-! ### text[i], text.split(sep), len(text), x is None -/
theorem rd_ixS {z : Str} {i : Int} {ch : Nat} (hz : z.length ≤ 1000000) (h : atI z.cps.toList i = some ch) : RD K (rIx K) (.str z) (.int i) (.str ⟨#[ch]⟩) := fun H Hm x y s hx hy Q q =>
  .inr (.inr ⟨z, i, ch, dp_str hx, dp_int hy, Nat.le_trans hz (by decide), h, q _ H Hm (Gr.refl s) (.str _)⟩)
abbrev rSplit : V → List V → Hp → VK → Prop := fun x xs H Q => ∃ a b, x = .str a ∧ xs = [.str b] ∧ (b.length == 0) = false ∧ a.length + 2 ≤ sizeLine ∧ rNewStrs (Txt.split a b) H Q
theorem el_split {x y : Str} (ho : ED K to ρ (.str x)) (he : ED K te ρ (.str y)) (hy : (y.length == 0) = false) (hz : x.length ≤ 1000000) : EL K (tM1 rSplit to te) ρ ((Txt.split x y).map PyData.str) := fun σ H Hm s l hs Q q =>
  ho σ H Hm s l hs _ fun v H1 Hm1 g1 h1 => ⟨⟨x, dp_str h1⟩, he σ H1 Hm1 g1.sub l (hs.mono g1.em) _ fun u H2 Hm2 g2 h2 =>
    ⟨x, y, dp_str h1, by rw [dp_str h2], hy, Nat.le_trans (Nat.add_le_add_right hz 2) (by decide), fun p hp => q p _ _ Hm2 ((g1.trans g2).trans (Gr.priv g2.sub hp)) (fresh_back (g1.ex.trans g2.ex) hp) (fresh_back g2.sub hp) upd_same (by
      clear hp q
      generalize Txt.split x y = l
      induction l with
      | nil => exact .nil
      | cons w l ih => exact .cons (.str w) ih)⟩⟩
def isNone : D → Bool
  | .none => true
  | _ => false
theorem dp_isN {H : Hp} {v : V} {d : D} (h : Dp K H v d) : decide (v = .non) = isNone d := by
  cases h <;> simp [isNone]
theorem rd_isN {d : D} : RD K (fun x y H Q => y = .non ∧ Q (.bl (decide (x = .non))) H) d .none (.bool (isNone d)) := fun H Hm x y s hx hy Q q => ⟨dp_none hy, by
  rw [dp_isN hx]; exact q _ H Hm (Gr.refl s) (.bl _)⟩
theorem rd_notN {d : D} : RD K (fun x y H Q => y = .non ∧ Q (.bl (!decide (x = .non))) H) d .none (.bool (!isNone d)) := fun H Hm x y s hx hy Q q => ⟨dp_none hy, by
  rw [dp_isN hx]; exact q _ H Hm (Gr.refl s) (.bl _)⟩
/-! ### while, turn by turn -/
inductive Wh (K : PySem.W.Frag) (tt : TT) (tu : TS) : Nat → Rho → Om → Out → Prop
  | stop {ρ : Rho} {ω : Om} : ET K tt (vw ρ ω) false → Wh K tt tu 0 ρ ω (.nx ρ ω)
  | brk {ρ : Rho} {ω : Om} {ρ' : Rho} {ω' : Om} : ET K tt (vw ρ ω) true → XD K tu ρ ω (.bk ρ' ω') → Wh K tt tu 0 ρ ω (.nx ρ' ω')
  | ret {ρ : Rho} {ω : Om} {d : D} : ET K tt (vw ρ ω) true → XD K tu ρ ω (.rt d) → Wh K tt tu 0 ρ ω (.rt d)
  | step {m : Nat} {ρ : Rho} {ω : Om} {ρ' : Rho} {ω' : Om} {o : Out} : ET K tt (vw ρ ω) true → XD K tu ρ ω (.nx ρ' ω') → Wh K tt tu m ρ' ω' o → Wh K tt tu (m + 1) ρ ω o
def lead {α : Type} (a : α) (f : Nat → α) : Nat → α
  | 0 => a
  | i + 1 => f i
theorem Wh.seq {m : Nat} (h : Wh K tt tu m ρ ω o) : ∃ (ρs : Nat → Rho) (ωs : Nat → Om), ρs 0 = ρ ∧ ωs 0 = ω ∧ (∀ i, i < m → ET K tt (vw (ρs i) (ωs i)) true ∧ XD K tu (ρs i) (ωs i) (.nx (ρs (i + 1)) (ωs (i + 1)))) ∧
    ((ET K tt (vw (ρs m) (ωs m)) false ∧ o = .nx (ρs m) (ωs m)) ∨ (ET K tt (vw (ρs m) (ωs m)) true ∧ ((∃ r, o = .rt r ∧ XD K tu (ρs m) (ωs m) (.rt r)) ∨ ∃ ρ' ω', o = .nx ρ' ω' ∧ XD K tu (ρs m) (ωs m) (.bk ρ' ω')))) := by
  induction h with
  | @stop ρ ω h => exact ⟨fun _ => ρ, fun _ => ω, rfl, rfl, fun i hi => by omega, .inl ⟨h, rfl⟩⟩
  | @brk ρ ω ρ' ω' h h2 => exact ⟨fun _ => ρ, fun _ => ω, rfl, rfl, fun i hi => by omega, .inr ⟨h, .inr ⟨ρ', ω', rfl, h2⟩⟩⟩
  | @ret ρ ω d h h2 => exact ⟨fun _ => ρ, fun _ => ω, rfl, rfl, fun i hi => by omega, .inr ⟨h, .inl ⟨d, rfl, h2⟩⟩⟩
  | @step m ρ ω ρ' ω' o h h2 _ ih =>
    obtain ⟨ρs, ωs, e1, e2, c1, c2⟩ := ih
    refine ⟨lead ρ ρs, lead ω ωs, rfl, rfl, fun i hi => ?_, c2⟩
    cases i with
    | zero => exact ⟨h, by show XD K tu ρ ω (.nx (ρs 0) (ωs 0)); rw [e1, e2]; exact h2⟩
    | succ i => exact c1 i (by omega)
theorem xd_wh {m : Nat} (h : Wh K tt tu m ρ ω o) : XD K (tWhile tt tu) ρ ω o := by
  obtain ⟨ρs, ωs, e1, e2, c1, c2⟩ := h.seq
  exact xd_while ρs ωs m e1 e2 c1 c2
inductive WhR (K : PySem.W.Frag) (W : WX) (C : Addr) (tt : TT) (tu : TS) : Nat → Rho → Om → Rho → Prop
  | here {ρ : Rho} {ω : Om} {ρ' : Rho} : ET K tt (vw ρ ω) true → XR K W C tu ρ ω ρ' → WhR K W C tt tu 0 ρ ω ρ'
  | step {m : Nat} {ρ : Rho} {ω : Om} {ρ1 : Rho} {ω1 : Om} {ρ' : Rho} : ET K tt (vw ρ ω) true → XD K tu ρ ω (.nx ρ1 ω1) → WhR K W C tt tu m ρ1 ω1 ρ' → WhR K W C tt tu (m + 1) ρ ω ρ'
theorem xr_wh {W : WX} {C : Addr} {m : Nat} (h : WhR K W C tt tu m ρ ω ρ') : XR K W C (tWhile tt tu) ρ ω ρ' := by
  have key : ∃ (ρs : Nat → Rho) (ωs : Nat → Om), ρs 0 = ρ ∧ ωs 0 = ω ∧ (∀ i, i < m → ET K tt (vw (ρs i) (ωs i)) true ∧ XD K tu (ρs i) (ωs i) (.nx (ρs (i + 1)) (ωs (i + 1)))) ∧ (ET K tt (vw (ρs m) (ωs m)) true ∧ XR K W C tu (ρs m) (ωs m) ρ') := by
    induction h with
    | @here ρ ω ρ' h h2 => exact ⟨fun _ => ρ, fun _ => ω, rfl, rfl, fun i hi => by omega, h, h2⟩
    | @step m ρ ω ρ1 ω1 ρ' h h2 _ ih =>
      obtain ⟨ρs, ωs, e1, e2, c1, c2⟩ := ih
      refine ⟨lead ρ ρs, lead ω ωs, rfl, rfl, fun i hi => ?_, c2⟩
      cases i with
      | zero => exact ⟨h, by show XD K tu ρ ω (.nx (ρs 0) (ωs 0)); rw [e1, e2]; exact h2⟩
      | succ i => exact c1 i (by omega)
  obtain ⟨ρs, ωs, e1, e2, c1, c2⟩ := key
  exact xr_while ρs ωs m e1 e2 c1 c2
end
end LM

set_option Elab.async false
set_option linter.all false
set_option maxRecDepth 100000
set_option maxHeartbeats 1000000
/-! Lm9: things that change (cells: own lists, instances, things kept by an invariant), told by their numbers. -/
namespace LM
open PySem PySem.Spec PyProof.Rows L2 Evl

/-- what a slot may hold: data, or the cell with a number -/
inductive SV where
  | d (x : D)
  | o (n : Nat)
abbrev Rx := List (Option SV)
/-- what a cell holds -/
inductive MO where
  | lst (ds : List D)
  | ins (C : Addr) (fs : List (Str × SV))
  | inv (φ : Addr → HO → Hp → Prop) (mono : ∀ a o H H', Ex H H' → φ a o H → φ a o H')
abbrev Mu := List MO
section
variable (K : PySem.W.Frag)
def Dx (Hm : Hp) (α : List Addr) (v : V) : SV → Prop
  | .d x => Dp K Hm v x
  | .o n => ∃ a : Addr, α[n]? = some a ∧ v = V.ref a
inductive FAll (Hm : Hp) (α : List Addr) : List (Str × V) → List (Str × SV) → Prop
  | nil : FAll Hm α [] []
  | cons {f v x vs xs} : Dx K Hm α v x → FAll Hm α vs xs → FAll Hm α ((f, v) :: vs) ((f, x) :: xs)
inductive DxAll (Hm : Hp) (α : List Addr) : List V → List SV → Prop
  | nil : DxAll Hm α [] []
  | cons {v x vs xs} : Dx K Hm α v x → DxAll Hm α vs xs → DxAll Hm α (v :: vs) (x :: xs)
def MOk (H Hm : Hp) (α : List Addr) (a : Addr) : MO → Prop
  | .lst ds => ∃ vs, H a = some (.lst vs) ∧ DpAll K Hm vs ds
  | .ins C fs => ∃ dx vs, H a = some (.ins C dx vs) ∧ FAll K Hm α vs fs
  | .inv φ _ => ∃ o, H a = some o ∧ φ a o Hm
structure Sto (H Hm : Hp) (α : List Addr) (μ : Mu) : Prop where
  len : α.length = μ.length
  nd : α.Nodup
  hm : ∀ a ∈ α, Hm a = none
  ok : ∀ (n : Nat) (a : Addr) (m : MO), α[n]? = some a → μ[n]? = some m → MOk K H Hm α a m
def Sx (Hm : Hp) (α : List Addr) (σ : L2.St) (ρ : Rx) : Prop := ∀ (i : Nat) (x : SV), ρ[i]? = some (some x) → ∃ v, σ[i]? = some (some v) ∧ Dx K Hm α v x
end
/-- all but the cells stay -/
structure GrS (α : List Addr) (H Hm H2 Hm2 : Hp) : Prop where
  ex : ∀ a o, a ∉ α → H a = some o → H2 a = some o
  th : ∀ a o, H a = some o → ∃ o2, H2 a = some o2
  em : Ex Hm Hm2
  sub : Ex Hm2 H2
  own : ∀ a o, H a = some o → Hm a = none → Hm2 a = none
section
variable {K : PySem.W.Frag} {H Hm H1 Hm1 H2 Hm2 : Hp} {α β γ : List Addr} {μ μ1 μ2 : Mu} {σ : L2.St} {ρ : Rx}
theorem Gr.toS (g : Gr H Hm H2 Hm2) : GrS α H Hm H2 Hm2 := ⟨fun a o _ h => g.ex a o h, fun a o h => ⟨o, g.ex a o h⟩, g.em, g.sub, g.own⟩
theorem GrS.refl (s : Ex Hm H) : GrS α H Hm H Hm := (Gr.refl s).toS
theorem GrS.trans (g : GrS α H Hm H1 Hm1) (k : GrS β H1 Hm1 H2 Hm2) (nw : ∀ a ∈ β, a ∉ α → H a = none) : GrS α H Hm H2 Hm2 := by
  refine ⟨fun a o n h => ?_, fun a o h => ?_, g.em.trans k.em, k.sub, fun a o h n => ?_⟩
  · refine k.ex a o (fun hb => ?_) (g.ex a o n h)
    rw [nw a hb n] at h
    cases h
  · obtain ⟨o1, h1⟩ := g.th a o h
    exact k.th a o1 h1
  · obtain ⟨o1, h1⟩ := g.th a o h
    exact k.own a o1 h1 (g.own a o h n)
theorem GrS.non (g : GrS α H Hm H2 Hm2) {a : Addr} (h : H2 a = none) : H a = none := by
  cases e : H a with
  | none => rfl
  | some o =>
    obtain ⟨o2, h2⟩ := g.th a o e
    rw [h] at h2; cases h2
theorem pre_get (h : α <+: β) {n : Nat} {a : Addr} (e : α[n]? = some a) : β[n]? = some a := by
  obtain ⟨t, rfl⟩ := h
  obtain ⟨hn, _⟩ := List.getElem?_eq_some_iff.mp e
  rw [List.getElem?_append_left hn]; exact e
theorem Dx.mono {v : V} : ∀ {x : SV}, Dx K Hm α v x → Ex Hm Hm2 → α <+: β → Dx K Hm2 β v x
  | .d _, h, e, _ => Dp.mono h e
  | .o _, ⟨a, h1, h2⟩, _, p => ⟨a, pre_get p h1, h2⟩
theorem FAll.mono : ∀ {vs : List (Str × V)} {xs : List (Str × SV)}, FAll K Hm α vs xs → Ex Hm Hm2 → α <+: β → FAll K Hm2 β vs xs
  | _, _, .nil, _, _ => .nil
  | _, _, .cons h t, e, p => .cons (h.mono e p) (FAll.mono t e p)
theorem FAll.look {f : Str} {x : SV} : ∀ {vs : List (Str × V)} {xs : List (Str × SV)}, FAll K Hm α vs xs → xs.lookup f = some x → ∃ v, vs.lookup f = some v ∧ Dx K Hm α v x
  | _, _, .nil, e => by cases e
  | _, _, .cons (f := g) h t, e => by
    rw [List.lookup_cons] at e ⊢
    cases c : f == g with
    | true => rw [c] at e; cases e; exact ⟨_, rfl, h⟩
    | false => rw [c] at e; exact FAll.look t e
theorem FAll.lookN {f : Str} : ∀ {vs : List (Str × V)} {xs : List (Str × SV)}, FAll K Hm α vs xs → xs.lookup f = none → vs.lookup f = none
  | _, _, .nil, _ => rfl
  | _, _, .cons (f := g) h t, e => by
    rw [List.lookup_cons] at e ⊢
    cases c : f == g with
    | true => rw [c] at e; cases e
    | false => rw [c] at e; exact FAll.lookN t e
theorem FAll.len : ∀ {vs : List (Str × V)} {xs : List (Str × SV)}, FAll K Hm α vs xs → vs.length = xs.length
  | _, _, .nil => rfl
  | _, _, .cons _ t => congrArg (· + 1) (FAll.len t)
theorem DxAll.mono : ∀ {vs : List V} {xs : List SV}, DxAll K Hm α vs xs → Ex Hm Hm2 → α <+: β → DxAll K Hm2 β vs xs
  | _, _, .nil, _, _ => .nil
  | _, _, .cons h t, e, p => .cons (h.mono e p) (DxAll.mono t e p)
theorem DxAll.len : ∀ {vs : List V} {xs : List SV}, DxAll K Hm α vs xs → vs.length = xs.length
  | _, _, .nil => rfl
  | _, _, .cons _ t => congrArg (· + 1) (DxAll.len t)
theorem DxAll.data : ∀ {vs : List V} {ds : List D}, DxAll K Hm α vs (ds.map .d) → DpAll K Hm vs ds
  | _, [], .nil => .nil
  | _, _ :: _, .cons h t => .cons h (DxAll.data t)
theorem DxAll.of : ∀ {vs : List V} {ds : List D}, DpAll K Hm vs ds → DxAll K Hm α vs (ds.map .d)
  | _, _, .nil => .nil
  | _, _, .cons h t => .cons h (DxAll.of t)
theorem MOk.move {a : Addr} {m : MO} (h : MOk K H Hm α a m) (e : ∀ o, H a = some o → H2 a = some o) (em : Ex Hm Hm2) (p : α <+: β) : MOk K H2 Hm2 β a m := by
  cases m with
  | lst ds =>
    obtain ⟨vs, h1, h2⟩ := h
    exact ⟨vs, e _ h1, h2.mono em⟩
  | ins C fs =>
    obtain ⟨dx, vs, h1, h2⟩ := h
    exact ⟨dx, vs, e _ h1, h2.mono em p⟩
  | inv φ mono =>
    obtain ⟨o, h1, h2⟩ := h
    exact ⟨o, e _ h1, mono _ _ _ _ em h2⟩
theorem MOk.has {a : Addr} {m : MO} (h : MOk K H Hm α a m) : ∃ o, H a = some o := by
  cases m with
  | lst ds => obtain ⟨vs, h1, _⟩ := h; exact ⟨_, h1⟩
  | ins C fs => obtain ⟨dx, vs, h1, _⟩ := h; exact ⟨_, h1⟩
  | inv φ mono => obtain ⟨o, h1, _⟩ := h; exact ⟨_, h1⟩
theorem Sto.get (S : Sto K H Hm α μ) {n : Nat} {m : MO} (e : μ[n]? = some m) : ∃ a, α[n]? = some a ∧ MOk K H Hm α a m := by
  obtain ⟨hn, _⟩ := List.getElem?_eq_some_iff.mp e
  have hn' : n < α.length := by rw [S.len]; exact hn
  have ha : α[n]? = some α[n] := List.getElem?_eq_getElem hn'
  exact ⟨_, ha, S.ok n _ m ha e⟩
theorem Sto.at (S : Sto K H Hm α μ) {n : Nat} {a : Addr} (e : α[n]? = some a) : ∃ m, μ[n]? = some m ∧ MOk K H Hm α a m := by
  obtain ⟨hn, _⟩ := List.getElem?_eq_some_iff.mp e
  have hn' : n < μ.length := by rw [← S.len]; exact hn
  have hm : μ[n]? = some μ[n] := List.getElem?_eq_getElem hn'
  exact ⟨_, hm, S.ok n a _ e hm⟩
theorem Sto.has (S : Sto K H Hm α μ) {a : Addr} (h : a ∈ α) : ∃ o, H a = some o := by
  obtain ⟨n, hn⟩ := List.mem_iff_getElem?.mp h
  obtain ⟨m, _, k⟩ := S.at hn
  exact k.has
theorem Sto.fresh (S : Sto K H Hm α μ) {p : Addr} (h : H p = none) : p ∉ α := fun hp => by
  obtain ⟨o, ho⟩ := S.has hp
  rw [h] at ho; cases ho
theorem Sto.inj (S : Sto K H Hm α μ) {n k : Nat} {a : Addr} (e1 : α[n]? = some a) (e2 : α[k]? = some a) : n = k := by
  obtain ⟨hn, _⟩ := List.getElem?_eq_some_iff.mp e1
  exact (List.getElem?_inj hn S.nd).mp (e1.trans e2.symm)
theorem Sto.empty : Sto K H Hm [] [] := ⟨rfl, List.nodup_nil, fun a h => (by cases h), fun n a m h => (by simp at h)⟩
/-- growth changes no cell -/
theorem Sto.grow (S : Sto K H Hm α μ) (g : Gr H Hm H2 Hm2) : Sto K H2 Hm2 α μ := by
  refine ⟨S.len, S.nd, fun a ha => ?_, fun n a m h1 h2 => (S.ok n a m h1 h2).move (fun o e => g.ex a o e) g.em (List.prefix_refl _)⟩
  obtain ⟨o, ho⟩ := S.has ha
  exact g.own a o ho (S.hm a ha)
theorem Sto.take (S : Sto K H Hm α μ) (n : Nat) (cl : ∀ k m, k < n → μ[k]? = some m → ∀ C fs, m = .ins C fs → ∀ f x, (f, x) ∈ fs → ∀ j, x = .o j → j < n) : Sto K H Hm (α.take n) (μ.take n) := by
  refine ⟨by rw [List.length_take, List.length_take, S.len], S.nd.sublist (List.take_sublist _ _), fun a ha => S.hm a (List.mem_of_mem_take ha), fun k a m h1 h2 => ?_⟩
  have hk : k < n := by
    have := (List.getElem?_eq_some_iff.mp h1).1
    rw [List.length_take] at this; omega
  rw [List.getElem?_take_of_lt hk] at h1 h2
  have h := S.ok k a m h1 h2
  cases m with
  | lst ds => exact h
  | inv φ mono => exact h
  | ins C fs =>
    obtain ⟨dx, vs, e1, e2⟩ := h
    refine ⟨dx, vs, e1, ?_⟩
    have key : ∀ (vs : List (Str × V)) (xs : List (Str × SV)), FAll K Hm α vs xs → (∀ f x, (f, x) ∈ xs → ∀ j, x = .o j → j < n) → FAll K Hm (α.take n) vs xs := by
      intro vs xs h
      induction h with
      | nil => intro _; exact .nil
      | @cons f v x vs xs h t ih =>
        intro c
        refine .cons ?_ (ih fun g y hy => c g y (List.mem_cons_of_mem _ hy))
        cases x with
        | d x => exact h
        | o j =>
          obtain ⟨a, h1, h2⟩ := h
          exact ⟨a, by rw [List.getElem?_take_of_lt (c f _ List.mem_cons_self j rfl)]; exact h1, h2⟩
    exact key vs fs e2 (cl k _ hk h2 C fs rfl)
/-- one cell is changed -/
theorem Sto.put (S : Sto K H Hm α μ) {n : Nat} {a : Addr} {o : HO} {m : MO} (ha : α[n]? = .some a) (s : Ex Hm H) (hm : MOk K (upd H a o) Hm α a m) : Sto K (upd H a o) Hm α (μ.set n m) := by
  refine ⟨by rw [List.length_set]; exact S.len, S.nd, S.hm, fun k b m' h1 h2 => ?_⟩
  rcases set_get h2 with ⟨rfl, rfl, _⟩ | ⟨hne, h3⟩
  · rw [ha] at h1
    cases h1
    exact hm
  · have hb : b ≠ a := fun e => hne (S.inj h1 (e ▸ ha))
    exact (S.ok k b m' h1 h3).move (fun o' e => by rw [upd_ne hb]; exact e) (Ex.refl _) (List.prefix_refl _)
theorem upd_sub {a : Addr} {o : HO} (s : Ex Hm H) (h : Hm a = none) : Ex Hm (upd H a o) := fun b u e => by
  have hne : b ≠ a := fun z => by rw [z, h] at e; cases e
  rw [upd_ne hne]; exact s b u e
theorem GrS.put {n : Nat} {a : Addr} {o : HO} (s : Ex Hm H) (ha : a ∈ α) (hm : Hm a = none) : GrS α H Hm (upd H a o) Hm := by
  refine ⟨fun b u nb h => ?_, fun b u h => ?_, Ex.refl _, upd_sub s hm, fun b u h n => n⟩
  · have hne : b ≠ a := fun z => nb (z ▸ ha)
    rw [upd_ne hne]; exact h
  · by_cases z : b = a
    · exact ⟨o, by rw [z, upd_same]⟩
    · exact ⟨u, by rw [upd_ne z]; exact h⟩
/-- a new cell -/
theorem Sto.new (S : Sto K H Hm α μ) {p : Addr} {o : HO} {m : MO} (s : Ex Hm H) (hp : H p = none) (hm : MOk K (upd H p o) Hm (α ++ [p]) p m) : Sto K (upd H p o) Hm (α ++ [p]) (μ ++ [m]) := by
  refine ⟨by rw [List.length_append, List.length_append, S.len]; rfl, ?_, fun a ha => ?_, fun k b m' h1 h2 => ?_⟩
  · rw [List.nodup_append]
    exact ⟨S.nd, by simp, fun x hx y hy e => by
      rw [List.mem_singleton] at hy
      subst hy
      subst e
      exact S.fresh hp hx⟩
  · rcases List.mem_append.mp ha with h | h
    · exact S.hm a h
    · rw [List.mem_singleton.mp h]; exact fresh_back s hp
  · by_cases hk : k < α.length
    · rw [List.getElem?_append_left hk] at h1
      rw [List.getElem?_append_left (by rw [← S.len]; exact hk)] at h2
      have hb : b ≠ p := fun e => S.fresh hp (e ▸ List.mem_of_getElem? h1)
      exact (S.ok k b m' h1 h2).move (fun o' e => by rw [upd_ne hb]; exact e) (Ex.refl _) (List.prefix_append _ _)
    · have e : k = α.length := by
        have := (List.getElem?_eq_some_iff.mp h1).1
        rw [List.length_append, List.length_singleton] at this
        omega
      rw [List.getElem?_append_right (by omega), e, Nat.sub_self] at h1
      rw [List.getElem?_append_right (by rw [← S.len]; omega), e, S.len, Nat.sub_self] at h2
      cases h1
      cases h2
      exact hm
/-- behind a piece of the run -/
structure Aft (K : PySem.W.Frag) (α : List Addr) (H Hm : Hp) (μ2 : Mu) (α2 : List Addr) (H2 Hm2 : Hp) : Prop where
  pre : α <+: α2
  nw : ∀ a ∈ α2, a ∉ α → H a = none
  gr : GrS α H Hm H2 Hm2
  sto : Sto K H2 Hm2 α2 μ2
theorem Aft.refl (s : Ex Hm H) (S : Sto K H Hm α μ) : Aft K α H Hm μ α H Hm := ⟨List.prefix_refl _, fun a h n => absurd h n, GrS.refl s, S⟩
theorem Aft.ofGr (S : Sto K H Hm α μ) (g : Gr H Hm H2 Hm2) : Aft K α H Hm μ α H2 Hm2 := ⟨List.prefix_refl _, fun a h n => absurd h n, g.toS, S.grow g⟩
theorem Aft.trans (a : Aft K α H Hm μ1 β H1 Hm1) (b : Aft K β H1 Hm1 μ2 γ H2 Hm2) : Aft K α H Hm μ2 γ H2 Hm2 := by
  refine ⟨a.pre.trans b.pre, fun x hx n => ?_, a.gr.trans b.gr a.nw, b.sto⟩
  by_cases h : x ∈ β
  · exact a.nw x h n
  · exact a.gr.non (b.nw x hx h)
theorem Aft.put (s : Ex Hm H) (S : Sto K H Hm α μ) {n : Nat} {a : Addr} {o : HO} {m : MO} (ha : α[n]? = .some a) (hm : MOk K (upd H a o) Hm α a m) : Aft K α H Hm (μ.set n m) α (upd H a o) Hm :=
  ⟨List.prefix_refl _, fun a h n => absurd h n, GrS.put (n := n) s (List.mem_of_getElem? ha) (S.hm _ (List.mem_of_getElem? ha)), S.put ha s hm⟩
theorem Aft.new (s : Ex Hm H) (S : Sto K H Hm α μ) {p : Addr} {o : HO} {m : MO} (hp : H p = none) (hm : MOk K (upd H p o) Hm (α ++ [p]) p m) : Aft K α H Hm (μ ++ [m]) (α ++ [p]) (upd H p o) Hm := by
  refine ⟨List.prefix_append _ _, fun a ha n => ?_, (Gr.priv s hp).toS, S.new s hp hm⟩
  rcases List.mem_append.mp ha with h | h
  · exact absurd h n
  · rw [List.mem_singleton.mp h]; exact hp
theorem Sx.mono (h : Sx K Hm α σ ρ) (e : Ex Hm Hm2) (p : α <+: β) : Sx K Hm2 β σ ρ := fun i x hi =>
  let ⟨v, h1, h2⟩ := h i x hi
  ⟨v, h1, h2.mono e p⟩
theorem Sx.aft (h : Sx K Hm α σ ρ) (a : Aft K α H Hm μ β H2 Hm2) : Sx K Hm2 β σ ρ := h.mono a.gr.em a.pre
theorem Sx.set {v : V} {x : SV} (h : Sx K Hm α σ ρ) (hl : ρ.length ≤ σ.length) (i : Nat) (hv : Dx K Hm α v x) : Sx K Hm α (σ.set i (some v)) (ρ.set i (some x)) := fun j y hj => by
  rcases set_get hj with ⟨rfl, e1, hi⟩ | ⟨hne, h1⟩
  · cases e1
    exact ⟨v, List.getElem?_set_self (by omega), hv⟩
  · obtain ⟨w, h2, h3⟩ := h j y h1
    exact ⟨w, by rw [List.getElem?_set_ne (Ne.symm hne)]; exact h2, h3⟩
theorem Sx.less {ρ' : Rx} (h : Sx K Hm α σ ρ) (hw : ∀ (i : Nat) (x : SV), ρ'[i]? = some (some x) → ρ[i]? = some (some x)) : Sx K Hm α σ ρ' := fun i x hi => h i x (hw i x hi)
def wipeX (ρ : Rx) : List Nat → Rx
  | [] => ρ
  | v :: vs => (wipeX ρ vs).set v none
theorem wipeX_length (ρ : Rx) : ∀ vs : List Nat, (wipeX ρ vs).length = ρ.length
  | [] => rfl
  | v :: vs => by unfold wipeX; rw [List.length_set, wipeX_length ρ vs]
theorem Sx.wipe (h : Sx K Hm α σ ρ) : ∀ vs : List Nat, Sx K Hm α (wipe σ vs) (wipeX ρ vs)
  | [] => h
  | v :: vs => fun j y hj => by
    rcases set_get hj with ⟨rfl, e1, hi⟩ | ⟨hne, h1⟩
    · cases e1
    · obtain ⟨w, h2, h3⟩ := Sx.wipe h vs j y h1
      exact ⟨w, by show ((L2.wipe σ vs).set v none)[j]? = _; rw [List.getElem?_set_ne (Ne.symm hne)]; exact h2, h3⟩
end

/-! ### the slots' data alone; with own lists shown -/
def purS : Option SV → Option D
  | some (.d x) => some x
  | _ => none
def pur (ρ : Rx) : Rho := ρ.map purS
def vwS (μ : Mu) : Option SV → Option D
  | some (.d x) => some x
  | some (.o n) => match μ[n]? with
    | some (.lst ds) => some (.list ds)
    | _ => none
  | none => none
def vwx (ρ : Rx) (μ : Mu) : Rho := ρ.map (vwS μ)
/-- the addresses of own lists -/
def isL (α : List Addr) (μ : Mu) (a : Addr) : Prop := ∃ (n : Nat) (ds : List D), α[n]? = some a ∧ μ[n]? = some (MO.lst ds)
open Classical in
noncomputable def shown (H Hm : Hp) (α : List Addr) (μ : Mu) : Hp := fun a => if isL α μ a then H a else Hm a
open Classical in
noncomputable def eraP (H : Hp) (p : Addr → Prop) : Hp := fun a => if p a then none else H a
section
variable {K : PySem.W.Frag} {H Hm H2 Hv2 : Hp} {α : List Addr} {μ : Mu} {σ : L2.St} {ρ : Rx}
theorem Sx.pur (h : Sx K Hm α σ ρ) : Sd K Hm σ (pur ρ) := fun i d hi => by
  unfold LM.pur at hi
  rw [List.getElem?_map] at hi
  obtain ⟨x, h1, h2⟩ := Option.map_eq_some_iff.mp hi
  cases x with
  | none => cases h2
  | some x =>
    cases x with
    | o n => cases h2
    | d x =>
      cases h2
      exact h i _ h1
theorem pur_len : (pur ρ).length = ρ.length := by unfold pur; rw [List.length_map]
theorem vwx_len : (vwx ρ μ).length = ρ.length := by unfold vwx; rw [List.length_map]
theorem shown_yes {a : Addr} (h : isL α μ a) : shown H Hm α μ a = H a := by unfold shown; exact if_pos h
theorem shown_no {a : Addr} (h : ¬ isL α μ a) : shown H Hm α μ a = Hm a := by unfold shown; exact if_neg h
theorem eraP_yes {p : Addr → Prop} {a : Addr} (h : p a) : eraP H p a = none := by unfold eraP; exact if_pos h
theorem eraP_no {p : Addr → Prop} {a : Addr} (h : ¬ p a) : eraP H p a = H a := by unfold eraP; exact if_neg h
theorem eraP_ex {p : Addr → Prop} : Ex (eraP H p) H := fun b o h => by
  by_cases e : p b
  · rw [eraP_yes e] at h; cases h
  · rw [eraP_no e] at h; exact h
theorem isL_get (S : Sto K H Hm α μ) {a : Addr} (h : isL α μ a) : ∃ vs, H a = some (.lst vs) := by
  obtain ⟨n, ds, h1, h2⟩ := h
  obtain ⟨vs, h3, _⟩ := S.ok n a _ h1 h2
  exact ⟨vs, h3⟩
theorem shown_up (S : Sto K H Hm α μ) : Ex Hm (shown H Hm α μ) := fun a o h => by
  have n : ¬ isL α μ a := fun ⟨k, ds, h1, _⟩ => by
    rw [S.hm a (List.mem_of_getElem? h1)] at h; cases h
  rw [shown_no n]; exact h
theorem shown_sub (s : Ex Hm H) : Ex (shown H Hm α μ) H := fun a o h => by
  by_cases e : isL α μ a
  · rw [shown_yes e] at h; exact h
  · rw [shown_no e] at h; exact s a o h
theorem Sx.vw (h : Sx K Hm α σ ρ) (S : Sto K H Hm α μ) : Sd K (shown H Hm α μ) σ (vwx ρ μ) := fun i d hi => by
  unfold vwx at hi
  rw [List.getElem?_map] at hi
  obtain ⟨x, h1, h2⟩ := Option.map_eq_some_iff.mp hi
  cases x with
  | none => cases h2
  | some x =>
    obtain ⟨v, hv, hd⟩ := h i x h1
    cases x with
    | d x =>
      cases h2
      exact ⟨v, hv, Dp.mono hd (shown_up S)⟩
    | o n =>
      obtain ⟨a, ha, rfl⟩ := hd
      simp only [vwS] at h2
      cases hm : μ[n]? with
      | none => rw [hm] at h2; cases h2
      | some m =>
        rw [hm] at h2
        cases m with
        | ins C fs => cases h2
        | inv φ mono => cases h2
        | lst ds =>
          cases h2
          obtain ⟨vs, e1, e2⟩ := S.ok n a _ ha hm
          exact ⟨_, hv, .lst (.inl (.inl (by rw [shown_yes ⟨n, ds, ha, hm⟩]; exact e1))) (e2.mono (shown_up S))⟩
theorem sqT_eraP {p : Addr → Prop} (hp : ∀ a, p a → ∃ vs, H a = some (.lst vs)) {a : Addr} {xs : List V} (h : SqT K H a xs) : SqT K (eraP H p) a xs := by
  have ne : ∀ {o : HO}, H a = some o → (∀ vs, o ≠ .lst vs) → ¬ p a := fun h n z => by
    obtain ⟨vs, e⟩ := hp _ z
    rw [h] at e
    exact n vs (Option.some.inj e)
  rcases h with (h | ⟨o, h⟩) | h
  · exact .inl (.inl (by rw [eraP_no (ne h (fun _ e => by cases e))]; exact h))
  · exact .inl (.inr ⟨o, by rw [eraP_no (ne h (fun _ e => by cases e))]; exact h⟩)
  · exact .inr h
mutual
theorem dp_eraP {p : Addr → Prop} (hp : ∀ a, p a → ∃ vs, H a = some (.lst vs)) : ∀ (d : D) (v : V), imm d = true → Dp K H v d → Dp K (eraP H p) v d
  | .none, _, _, h => by cases h; exact .non
  | .bool b, _, _, h => by cases h; exact .bl b
  | .int i, _, _, h => by cases h; exact .int i
  | .str x, _, _, h => by cases h; exact .str x
  | .list ds, _, q, _ => by simp [imm] at q
  | .tuple ds, _, q, h => by
    cases h with
    | tup hs hd => exact .tup (sqT_eraP hp hs) (dps_eraP hp ds _ (by simpa [imm] using q) hd)
  | .dict _, _, _, h => by cases h
theorem dps_eraP {p : Addr → Prop} (hp : ∀ a, p a → ∃ vs, H a = some (.lst vs)) : ∀ (ds : List D) (vs : List V), imms ds = true → DpAll K H vs ds → DpAll K (eraP H p) vs ds
  | [], _, _, h => by cases h; exact .nil
  | d :: ds, _, q, h => by
    cases h with
    | cons h1 h2 =>
      simp only [imms, Bool.and_eq_true] at q
      exact .cons (dp_eraP hp d _ q.1 h1) (dps_eraP hp ds _ q.2 h2)
end
/-- behind what was read with own lists shown: they are hidden again -/
theorem hideX (S : Sto K H Hm α μ) (s : Ex Hm H) (g : Gr H (shown H Hm α μ) H2 Hv2) : Aft K α H Hm μ α H2 (eraP Hv2 (isL α μ)) ∧ ∀ a, isL α μ a → ∃ vs, Hv2 a = some (.lst vs) := by
  have hl : ∀ a, isL α μ a → ∃ vs, Hv2 a = some (.lst vs) := fun a h => by
    obtain ⟨vs, e⟩ := isL_get S h
    exact ⟨vs, g.em a _ (by rw [shown_yes h]; exact e)⟩
  have em : Ex Hm (eraP Hv2 (isL α μ)) := fun a o h => by
    have n : ¬ isL α μ a := fun ⟨k, ds, h1, _⟩ => by
      rw [S.hm a (List.mem_of_getElem? h1)] at h; cases h
    rw [eraP_no n]
    exact g.em a o (by rw [shown_no n]; exact h)
  have own : ∀ a o, H a = some o → Hm a = none → eraP Hv2 (isL α μ) a = none := fun a o h n => by
    by_cases e : isL α μ a
    · exact eraP_yes e
    · rw [eraP_no e]
      exact g.own a o h (by rw [shown_no e]; exact n)
  refine ⟨⟨List.prefix_refl _, fun a h n => absurd h n, ⟨fun a o _ h => g.ex a o h, fun a o h => ⟨o, g.ex a o h⟩, em, eraP_ex.trans g.sub, own⟩, ⟨S.len, S.nd, fun a ha => ?_, fun n a m h1 h2 => (S.ok n a m h1 h2).move (fun o e => g.ex a o e) em (List.prefix_refl _)⟩⟩, hl⟩
  obtain ⟨o, ho⟩ := S.has ha
  exact own a o ho (S.hm a ha)
end

/-! ### what an expression gives -/
section
variable (K : PySem.W.Frag)
def EX (te : TE) (ρ : Rx) (μ : Mu) (x : SV) (μ2 : Mu) : Prop := ∀ σ H Hm α, Ex Hm H → ρ.length ≤ σ.length → Sx K Hm α σ ρ → Sto K H Hm α μ → ∀ Q : VK, (∀ v H2 Hm2 α2, Aft K α H Hm μ2 α2 H2 Hm2 → Dx K Hm2 α2 v x → Q v H2) → te σ H Q
def EXs (ta : TA) (ρ : Rx) (μ : Mu) (xs : List SV) (μ2 : Mu) : Prop := ∀ σ H Hm α, Ex Hm H → ρ.length ≤ σ.length → Sx K Hm α σ ρ → Sto K H Hm α μ → ∀ Q : List V → Hp → Prop, (∀ vs H2 Hm2 α2, Aft K α H Hm μ2 α2 H2 Hm2 → DxAll K Hm2 α2 vs xs → Q vs H2) → ta σ H Q
def TX (tt : TT) (ρ : Rx) (μ : Mu) (b : Bool) (μ2 : Mu) : Prop := ∀ σ H Hm α, Ex Hm H → ρ.length ≤ σ.length → Sx K Hm α σ ρ → Sto K H Hm α μ → ∀ Q : Bool → Hp → Prop, (∀ H2 Hm2 α2, Aft K α H Hm μ2 α2 H2 Hm2 → Q b H2) → tt σ H Q
end
section
variable {K : PySem.W.Frag} {ρ : Rx} {μ μ1 μ2 μ3 : Mu} {ta tb te tc : TE} {t u : TT} {x y z : SV} {xs ys : List SV} {a b c d : D} {ds es : List D} {r : R2} {i n : Nat}
theorem ex_is (h : EX K te ρ μ x μ2) (e : x = y) : EX K te ρ μ y μ2 := e ▸ h
theorem ex_mu (h : EX K te ρ μ x μ2) (e : μ2 = μ3) : EX K te ρ μ x μ3 := e ▸ h
theorem tx_is {p q : Bool} (h : TX K t ρ μ p μ2) (e : p = q) : TX K t ρ μ q μ2 := e ▸ h
theorem ex_var (h : ρ[i]? = some (some x)) : EX K (tVar i) ρ μ x μ := fun σ H Hm α s _ hs S Q q =>
  let ⟨v, h1, h2⟩ := hs i x h
  ⟨v, h1, q v H Hm α (Aft.refl s S) h2⟩
theorem ex_pure (h : ED K te (pur ρ) d) : EX K te ρ μ (.d d) μ := fun σ H Hm α s l hs S Q q =>
  h σ H Hm s (by rw [pur_len]; exact l) hs.pur Q fun v H2 Hm2 g hv => q v H2 Hm2 α (Aft.ofGr S g) hv
theorem tx_pure {p : Bool} (h : ET K t (pur ρ) p) : TX K t ρ μ p μ := fun σ H Hm α s l hs S Q q =>
  h σ H Hm s (by rw [pur_len]; exact l) hs.pur Q fun H2 Hm2 g => q H2 Hm2 α (Aft.ofGr S g)
theorem exs_pure {t : TA} (h : EDs K t (pur ρ) ds) : EXs K t ρ μ (ds.map .d) μ := fun σ H Hm α s l hs S Q q =>
  h σ H Hm s (by rw [pur_len]; exact l) hs.pur Q fun v H2 Hm2 g hv => q v H2 Hm2 α (Aft.ofGr S g) (DxAll.of hv)
/-- read with own lists shown -/
theorem ex_view (h : ED K te (vwx ρ μ) d) (hd : imm d = true := by first | rfl | assumption) : EX K te ρ μ (.d d) μ := fun σ H Hm α s l hs S Q q =>
  h σ H (shown H Hm α μ) (shown_sub s) (by rw [vwx_len]; exact l) (hs.vw S) Q fun v H2 Hv2 g hv => by
    obtain ⟨A, hl⟩ := hideX S s g
    exact q v H2 _ α A (dp_eraP hl d v hd hv)
theorem tx_view {p : Bool} (h : ET K t (vwx ρ μ) p) : TX K t ρ μ p μ := fun σ H Hm α s l hs S Q q =>
  h σ H (shown H Hm α μ) (shown_sub s) (by rw [vwx_len]; exact l) (hs.vw S) Q fun H2 Hv2 g => by
    obtain ⟨A, hl⟩ := hideX S s g
    exact q H2 _ α A
/-- a new list, as data -/
theorem ex_viewL (h : EL K te (vwx ρ μ) ds) (hd : imms ds = true) : EX K te ρ μ (.d (.list ds)) μ := fun σ H Hm α s l hs S Q q =>
  h σ H (shown H Hm α μ) (shown_sub s) (by rw [vwx_len]; exact l) (hs.vw S) Q fun p vs H2 Hv2 g hp hm h2 hv => by
    obtain ⟨A, hl⟩ := hideX S s g
    have hv' := dps_eraP hl ds vs hd hv
    have hm' : eraP Hv2 (isL α μ) p = none := by
      by_cases e : isL α μ p
      · exact eraP_yes e
      · rw [eraP_no e]; exact hm
    have em : Ex (eraP Hv2 (isL α μ)) (upd (eraP Hv2 (isL α μ)) p (.lst vs)) := Ex.new hm'
    refine q (.ref p) H2 (upd (eraP Hv2 (isL α μ)) p (.lst vs)) α ⟨A.pre, A.nw, ⟨A.gr.ex, A.gr.th, A.gr.em.trans em, fun b o h => ?_, fun b o h n => ?_⟩, ⟨A.sto.len, A.sto.nd, fun b hb => ?_, fun k b m h1 h2 => (A.sto.ok k b m h1 h2).move (fun _ e => e) em (List.prefix_refl _)⟩⟩ (.lst (.inl (.inl upd_same)) (hv'.mono em))
    · by_cases e : b = p
      · subst e; rw [upd_same] at h; cases h; exact h2
      · rw [upd_ne e] at h; exact A.gr.sub b o h
    · rw [upd_ne (ne_of_none h hp)]; exact A.gr.own b o h n
    · have : b ≠ p := fun e => S.fresh hp (e ▸ hb)
      rw [upd_ne this]; exact A.sto.hm b hb
/-- a new list, as a cell -/
theorem ex_cell (h : EL K te (vwx ρ μ) ds) (hd : imms ds = true := by first | rfl | assumption) : EX K te ρ μ (.o μ.length) (μ ++ [.lst ds]) := fun σ H Hm α s l hs S Q q =>
  h σ H (shown H Hm α μ) (shown_sub s) (by rw [vwx_len]; exact l) (hs.vw S) Q fun p vs H2 Hv2 g hp hm h2 hv => by
    obtain ⟨A, hl⟩ := hideX S s g
    have hv' := dps_eraP hl ds vs hd hv
    have hm' : eraP Hv2 (isL α μ) p = none := by
      by_cases e : isL α μ p
      · exact eraP_yes e
      · rw [eraP_no e]; exact hm
    have fp : p ∉ α := S.fresh hp
    refine q (.ref p) H2 (eraP Hv2 (isL α μ)) (α ++ [p]) ⟨List.prefix_append _ _, fun b hb n => ?_, A.gr, ⟨by rw [List.length_append, List.length_append, S.len]; rfl, ?_, fun b hb => ?_, fun k b m h1 h2' => ?_⟩⟩ ⟨p, ?_, rfl⟩
    · rcases List.mem_append.mp hb with h | h
      · exact absurd h n
      · rw [List.mem_singleton.mp h]; exact hp
    · rw [List.nodup_append]
      exact ⟨S.nd, by simp, fun x hx y hy e => by
        rw [List.mem_singleton] at hy
        subst hy
        subst e
        exact fp hx⟩
    · rcases List.mem_append.mp hb with h | h
      · exact A.sto.hm b h
      · rw [List.mem_singleton.mp h]; exact hm'
    · by_cases hk : k < α.length
      · rw [List.getElem?_append_left hk] at h1
        rw [List.getElem?_append_left (by rw [← S.len]; exact hk)] at h2'
        exact (A.sto.ok k b m h1 h2').move (fun _ e => e) (Ex.refl _) (List.prefix_append _ _)
      · have e : k = α.length := by
          have := (List.getElem?_eq_some_iff.mp h1).1
          rw [List.length_append, List.length_singleton] at this
          omega
        rw [List.getElem?_append_right (by omega), e, Nat.sub_self] at h1
        rw [List.getElem?_append_right (by rw [← S.len]; omega), e, S.len, Nat.sub_self] at h2'
        cases h1
        cases h2'
        exact ⟨vs, h2, hv'⟩
    · rw [← S.len, List.getElem?_append_right (Nat.le_refl _), Nat.sub_self]; rfl
theorem ex_op (ha : EX K ta ρ μ (.d a) μ1) (hb : EX K tb ρ μ1 (.d b) μ2) (hr : RD K r a b c) : EX K (tOp r ta tb) ρ μ (.d c) μ2 := fun σ H Hm α s l hs S Q q =>
  ha σ H Hm α s l hs S _ fun x H1 Hm1 α1 A1 h1 => hb σ H1 Hm1 α1 A1.gr.sub l (hs.aft A1) A1.sto _ fun y H2 Hm2 α2 A2 h2 =>
    hr H2 Hm2 x y A2.gr.sub (Dp.mono h1 A2.gr.em) h2 Q fun v H3 Hm3 g3 h3 => q v H3 Hm3 α2 ((A1.trans A2).trans (Aft.ofGr A2.sto g3)) h3
theorem exs_nil : EXs K tNil ρ μ [] μ := fun σ H Hm α s _ _ S Q q => q [] H Hm α (Aft.refl s S) .nil
theorem exs_cons {tr : TA} (h : EX K ta ρ μ x μ1) (hr : EXs K tr ρ μ1 xs μ2) : EXs K (tCons ta tr) ρ μ (x :: xs) μ2 := fun σ H Hm α s l hs S Q q =>
  h σ H Hm α s l hs S _ fun v H1 Hm1 α1 A1 h1 => hr σ H1 Hm1 α1 A1.gr.sub l (hs.aft A1) A1.sto _ fun vs H2 Hm2 α2 A2 h2 => q _ H2 Hm2 α2 (A1.trans A2) (.cons (h1.mono A2.gr.em A2.pre) h2)
theorem ex_tup {t : TA} (h : EXs K t ρ μ (ds.map .d) μ2) (hl : ds.length ≤ 1000 := by decide) : EX K (tTup t) ρ μ (.d (.tuple ds)) μ2 := fun σ H Hm α s l hs S Q q =>
  h σ H Hm α s l hs S _ fun vs H1 Hm1 α1 A1 h1 => ⟨Nat.le_of_lt (small1000 (by rw [h1.data.len]; exact hl)), fun p hp =>
    q _ _ _ α1 (A1.trans (Aft.ofGr A1.sto (Gr.new A1.gr.sub hp))) (.tup (.inl (.inl upd_same)) (h1.data.mono (Ex.new (fresh_back A1.gr.sub hp))))⟩
theorem ex_cb {r : List V → Hp → VK → Prop} {t : TA} (h : EXs K t ρ μ (ds.map .d) μ2) (hr : CD K r ds c) : EX K (tCB r t) ρ μ (.d c) μ2 := fun σ H Hm α s l hs S Q q =>
  h σ H Hm α s l hs S _ fun vs H1 Hm1 α1 A1 h1 => hr H1 Hm1 vs A1.gr.sub h1.data Q fun v H2 Hm2 g2 h2 => q v H2 Hm2 α1 (A1.trans (Aft.ofGr A1.sto g2)) h2
theorem tx_test {p : Bool} (h : EX K te ρ μ (.d (.bool p)) μ2) : TX K (tTest te) ρ μ p μ2 := fun σ H Hm α s l hs S Q q =>
  h σ H Hm α s l hs S _ fun v H2 Hm2 α2 A h2 => ⟨p, dp_bool h2, q H2 Hm2 α2 A⟩
theorem tx_B {p : Bool} (h : EX K te ρ μ (.d (.bool p)) μ2) : TX K (tB te) ρ μ p μ2 := fun σ H Hm α s l hs S Q q =>
  h σ H Hm α s l hs S _ fun v H2 Hm2 α2 A h2 => ⟨p, dp_bool h2, q H2 Hm2 α2 A⟩
theorem tx_not {p : Bool} (h : TX K t ρ μ p μ2) : TX K (tNot t) ρ μ (!p) μ2 := fun σ H Hm α s l hs S Q q => h σ H Hm α s l hs S _ fun H2 Hm2 α2 A => q H2 Hm2 α2 A
theorem tx_and {p q : Bool} (h1 : TX K t ρ μ p μ1) (h2 : p = true → TX K u ρ μ1 q μ2) (h3 : p = false → μ2 = μ1) : TX K (tAnd t u) ρ μ (p && q) μ2 := fun σ H Hm α s l hs S Q k => h1 σ H Hm α s l hs S _ fun H2 Hm2 α2 A => by
  cases p with
  | true => exact h2 rfl σ H2 Hm2 α2 A.gr.sub l (hs.aft A) A.sto Q fun H3 Hm3 α3 A3 => k H3 Hm3 α3 (A.trans A3)
  | false => rw [h3 rfl] at k; exact k H2 Hm2 α2 A
theorem tx_or {p q : Bool} (h1 : TX K t ρ μ p μ1) (h2 : p = false → TX K u ρ μ1 q μ2) (h3 : p = true → μ2 = μ1) : TX K (tOr t u) ρ μ (p || q) μ2 := fun σ H Hm α s l hs S Q k => h1 σ H Hm α s l hs S _ fun H2 Hm2 α2 A => by
  cases p with
  | false => exact h2 rfl σ H2 Hm2 α2 A.gr.sub l (hs.aft A) A.sto Q fun H3 Hm3 α3 A3 => k H3 Hm3 α3 (A.trans A3)
  | true => rw [h3 rfl] at k; exact k H2 Hm2 α2 A
theorem ex_notV {p : Bool} (h : EX K ta ρ μ (.d (.bool p)) μ2) : EX K (tNotV ta) ρ μ (.d (.bool (!p))) μ2 := fun σ H Hm α s l hs S Q q =>
  h σ H Hm α s l hs S _ fun v H2 Hm2 α2 A hv => ⟨p, dp_bool hv, q _ H2 Hm2 α2 A (.bl _)⟩
theorem ex_andV {p q : Bool} (h1 : EX K ta ρ μ (.d (.bool p)) μ1) (h2 : p = true → EX K tb ρ μ1 (.d (.bool q)) μ2) (h3 : p = false → μ2 = μ1) : EX K (tAndV ta tb) ρ μ (.d (.bool (p && q))) μ2 := fun σ H Hm α s l hs S Q k =>
  h1 σ H Hm α s l hs S _ fun v H2 Hm2 α2 A hv => ⟨p, dp_bool hv, by
    cases p with
    | true => exact h2 rfl σ H2 Hm2 α2 A.gr.sub l (hs.aft A) A.sto Q fun w H3 Hm3 α3 A3 hw => k w H3 Hm3 α3 (A.trans A3) hw
    | false => rw [h3 rfl] at k; exact k _ H2 Hm2 α2 A (.bl false)⟩
theorem ex_orV {p q : Bool} (h1 : EX K ta ρ μ (.d (.bool p)) μ1) (h2 : p = false → EX K tb ρ μ1 (.d (.bool q)) μ2) (h3 : p = true → μ2 = μ1) : EX K (tOrV ta tb) ρ μ (.d (.bool (p || q))) μ2 := fun σ H Hm α s l hs S Q k =>
  h1 σ H Hm α s l hs S _ fun v H2 Hm2 α2 A hv => ⟨p, dp_bool hv, by
    cases p with
    | false => exact h2 rfl σ H2 Hm2 α2 A.gr.sub l (hs.aft A) A.sto Q fun w H3 Hm3 α3 A3 hw => k w H3 Hm3 α3 (A.trans A3) hw
    | true => rw [h3 rfl] at k; exact k _ H2 Hm2 α2 A (.bl true)⟩
/-- o.f -/
theorem ex_fld {C : Addr} {fs : List (Str × SV)} {f : Str} (h : EX K ta ρ μ (.o n) μ2) (hm : μ2[n]? = some (.ins C fs)) (c : Cls K C) (na : NoAttr K C f) (hf : fs.lookup f = some x) : EX K (tFld K ta f) ρ μ x μ2 := fun σ H Hm α s l hs S Q q =>
  h σ H Hm α s l hs S _ fun v H2 Hm2 α2 A ⟨a, ha, e⟩ => by
    obtain ⟨dx, vs, h1, h2⟩ := A.sto.ok n a _ ha hm
    obtain ⟨w, h3, h4⟩ := h2.look hf
    exact ⟨a, C, dx, vs, w, e, h1, c, na, h3, q w H2 Hm2 α2 A h4⟩
end
end LM

set_option Elab.async false
set_option linter.all false
set_option maxRecDepth 100000
set_option maxHeartbeats 1000000
/-! Lm10: statements, comprehensions, loops, calls over cells. -/
namespace LM
open PySem PySem.Spec PyProof.Rows L2 Evl

structure SM (K : PySem.W.Frag) (L0 : List Addr) (H0 Hm0 H Hm : Hp) (σ : L2.St) (ρ : Rx) (α : List Addr) (μ : Mu) : Prop where
  gr : GrS L0 H0 Hm0 H Hm
  len : ρ.length ≤ σ.length
  sd : Sx K Hm α σ ρ
  sto : Sto K H Hm α μ
  fr : ∀ a ∈ α, a ∈ L0 ∨ H0 a = none
inductive OutX where
  | nx (ρ : Rx) (μ : Mu)
  | rt (x : SV) (μ : Mu)
  | bk (ρ : Rx) (μ : Mu)
def FnX (K : PySem.W.Frag) (L0 : List Addr) (H0 Hm0 Hb : Hp) (αb : List Addr) (E : Ends) : OutX → Prop
  | .nx ρ μ => ∀ σ H Hm α, Ex Hb Hm → αb <+: α → SM K L0 H0 Hm0 H Hm σ ρ α μ → E.nx σ H
  | .rt x μ => ∀ v H Hm α, αb <+: α → GrS L0 H0 Hm0 H Hm → Sto K H Hm α μ → (∀ a ∈ α, a ∈ L0 ∨ H0 a = none) → Dx K Hm α v x → E.rt v H
  | .bk ρ μ => ∀ σ H Hm α, Ex Hb Hm → αb <+: α → SM K L0 H0 Hm0 H Hm σ ρ α μ → E.bk σ H
def XM (K : PySem.W.Frag) (ts : TS) (ρ : Rx) (μ : Mu) (o : OutX) : Prop := ∀ L0 H0 Hm0 E σ H Hm α, SM K L0 H0 Hm0 H Hm σ ρ α μ → FnX K L0 H0 Hm0 Hm α E o → ts E σ H
/-- what may be referred to, of n cells -/
def okV (n : Nat) : SV → Prop
  | .d _ => True
  | .o j => j < n
def clS (n : Nat) : SV → Bool
  | .d _ => true
  | .o j => decide (j < n)
def clM (n : Nat) : MO → Bool
  | .ins _ fs => fs.all fun p => clS n p.2
  | .lst _ => true
  | .inv _ _ => true
def cl (n : Nat) (μ : Mu) : Bool := (μ.take n).all (clM n)
section
variable {K : PySem.W.Frag} {L0 : List Addr} {H0 Hm0 H Hm H2 Hm2 Hb Hb2 : Hp} {σ : L2.St} {ρ ρ1 ρ2 : Rx} {α α2 β β2 : List Addr} {μ μ1 μ2 μ3 : Mu} {E : Ends} {o : OutX} {t u w : TS} {te ta : TE} {tt : TT} {x y : SV} {d : D} {ds es : List D} {i j n : Nat}
theorem SM.aft (S : SM K L0 H0 Hm0 H Hm σ ρ α μ) (A : Aft K α H Hm μ2 α2 H2 Hm2) : SM K L0 H0 Hm0 H2 Hm2 σ ρ α2 μ2 := by
  refine ⟨S.gr.trans A.gr fun a ha n => (S.fr a ha).resolve_left n, S.len, S.sd.aft A, A.sto, fun a ha => ?_⟩
  by_cases h : a ∈ α
  · exact S.fr a h
  · exact .inr (S.gr.non (A.nw a ha h))
theorem FnX.mono (h : FnX K L0 H0 Hm0 Hb β E o) (e : Ex Hb Hb2) (p : β <+: β2) : FnX K L0 H0 Hm0 Hb2 β2 E o := by
  cases o with
  | nx ρ μ => exact fun σ H Hm α x q S => h σ H Hm α (e.trans x) (p.trans q) S
  | rt x μ => exact fun v H Hm α q g S f hv => h v H Hm α (p.trans q) g S f hv
  | bk ρ μ => exact fun σ H Hm α x q S => h σ H Hm α (e.trans x) (p.trans q) S
theorem SM.set {v : V} (S : SM K L0 H0 Hm0 H Hm σ ρ α μ) (hv : Dx K Hm α v x) : SM K L0 H0 Hm0 H Hm (σ.set i (some v)) (ρ.set i (some x)) α μ :=
  ⟨S.gr, by rw [List.length_set, List.length_set]; exact S.len, S.sd.set S.len i hv, S.sto, S.fr⟩
theorem xm_out {o' : OutX} (h : XM K t ρ μ o) (e : o = o') : XM K t ρ μ o' := e ▸ h
theorem xm_seq (h : XM K t ρ μ (.nx ρ1 μ1)) (k : XM K u ρ1 μ1 o) : XM K (tSeq t u) ρ μ o := fun L0 H0 Hm0 E σ H Hm α S f =>
  h L0 H0 Hm0 _ σ H Hm α S fun σ' H' Hm' α' x p S' => k L0 H0 Hm0 E σ' H' Hm' α' S' (f.mono x p)
theorem xm_seq_rt (h : XM K t ρ μ (.rt x μ1)) : XM K (tSeq t u) ρ μ (.rt x μ1) := fun L0 H0 Hm0 E σ H Hm α S f => h L0 H0 Hm0 _ σ H Hm α S f
theorem xm_seq_bk (h : XM K t ρ μ (.bk ρ1 μ1)) : XM K (tSeq t u) ρ μ (.bk ρ1 μ1) := fun L0 H0 Hm0 E σ H Hm α S f => h L0 H0 Hm0 _ σ H Hm α S f
theorem xm_assoc (h : XM K (tSeq t (tSeq u w)) ρ μ o) : XM K (tSeq (tSeq t u) w) ρ μ o := h
theorem xm_nexts (h : XM K w ρ μ o) : XM K (tSeq tNext w) ρ μ o := h
theorem xm_next : XM K tNext ρ μ (.nx ρ μ) := fun L0 H0 Hm0 E σ H Hm α S f => f σ H Hm α (Ex.refl _) (List.prefix_refl _) S
theorem xm_break : XM K tBreak ρ μ (.bk ρ μ) := fun L0 H0 Hm0 E σ H Hm α S f => f σ H Hm α (Ex.refl _) (List.prefix_refl _) S
theorem xm_asg (h : EX K te ρ μ x μ2) : XM K (tAsg te (gName i)) ρ μ (.nx (ρ.set i (some x)) μ2) := fun L0 H0 Hm0 E σ H Hm α S f =>
  h σ H Hm α S.gr.sub S.len S.sd S.sto _ fun v H2 Hm2 α2 A hv => f _ H2 Hm2 α2 A.gr.em A.pre ((S.aft A).set hv)
theorem xm_drop (h : EX K te ρ μ x μ2) : XM K (tDrop te) ρ μ (.nx ρ μ2) := fun L0 H0 Hm0 E σ H Hm α S f =>
  h σ H Hm α S.gr.sub S.len S.sd S.sto _ fun v H2 Hm2 α2 A hv => f _ H2 Hm2 α2 A.gr.em A.pre (S.aft A)
theorem xm_ret (h : EX K te ρ μ x μ2) : XM K (tRet te) ρ μ (.rt x μ2) := fun L0 H0 Hm0 E σ H Hm α S f =>
  h σ H Hm α S.gr.sub S.len S.sd S.sto _ fun v H2 Hm2 α2 A hv => f v H2 Hm2 α2 A.pre (S.aft A).gr A.sto (S.aft A).fr hv
theorem xm_rets (h : EX K te ρ μ x μ2) : XM K (tSeq (tRet te) w) ρ μ (.rt x μ2) := xm_seq_rt (xm_ret h)
theorem xm_if {b : Bool} (h : TX K tt ρ μ b μ1) (h1 : b = true → XM K t ρ μ1 o) (h2 : b = false → XM K u ρ μ1 o) : XM K (tIfS tt t u) ρ μ o := fun L0 H0 Hm0 E σ H Hm α S f =>
  h σ H Hm α S.gr.sub S.len S.sd S.sto _ fun H2 Hm2 α2 A => by
    cases b with
    | true => exact h1 rfl L0 H0 Hm0 E σ H2 Hm2 α2 (S.aft A) (f.mono A.gr.em A.pre)
    | false => exact h2 rfl L0 H0 Hm0 E σ H2 Hm2 α2 (S.aft A) (f.mono A.gr.em A.pre)
theorem xm_ifT (h : TX K tt ρ μ true μ1) (h1 : XM K t ρ μ1 o) : XM K (tIfS tt t u) ρ μ o := xm_if h (fun _ => h1) (fun z => nomatch z)
theorem xm_ifF (h : TX K tt ρ μ false μ1) (h1 : XM K u ρ μ1 o) : XM K (tIfS tt t u) ρ μ o := xm_if h (fun z => nomatch z) (fun _ => h1)
theorem xm_ifs {b : Bool} (h : TX K tt ρ μ b μ1) (h1 : b = true → XM K (tSeq t w) ρ μ1 o) (h2 : b = false → XM K (tSeq u w) ρ μ1 o) : XM K (tSeq (tIfS tt t u) w) ρ μ o := fun L0 H0 Hm0 E σ H Hm α S f =>
  h σ H Hm α S.gr.sub S.len S.sd S.sto _ fun H2 Hm2 α2 A => by
    cases b with
    | true => exact h1 rfl L0 H0 Hm0 E σ H2 Hm2 α2 (S.aft A) (f.mono A.gr.em A.pre)
    | false => exact h2 rfl L0 H0 Hm0 E σ H2 Hm2 α2 (S.aft A) (f.mono A.gr.em A.pre)
theorem cl_ok {n : Nat} {μ : Mu} (h : cl n μ = true) : ∀ k m, k < n → μ[k]? = some m → ∀ C fs, m = .ins C fs → ∀ f x, (f, x) ∈ fs → ∀ j, x = .o j → j < n := fun k m hk hm C fs e f x hx j ej => by
  have h1 := List.all_eq_true.mp h m (List.mem_of_getElem? (by rw [List.getElem?_take_of_lt hk]; exact hm))
  subst e
  have h2 := List.all_eq_true.mp h1 _ hx
  subst ej
  exact of_decide_eq_true h2
theorem Dx.cut {v : V} (h : Dx K Hm α v x) (c : okV n x) : Dx K Hm (α.take n) v x := by
  cases x with
  | d x => exact h
  | o j =>
    obtain ⟨a, h1, h2⟩ := h
    exact ⟨a, by rw [List.getElem?_take_of_lt c]; exact h1, h2⟩
theorem pre_cut (h : β <+: α) (hn : β.length ≤ n) : β <+: α.take n := by
  obtain ⟨t, rfl⟩ := h
  exact ⟨t.take (n - β.length), by rw [List.take_append, List.take_of_length_le hn]⟩
/-- slots and cells let go -/
theorem xm_less (h : XM K t ρ μ (.nx ρ1 μ1)) (n : Nat) (hn : μ.length ≤ n) (hc : cl n μ1 = true) (hl : ρ2.length = ρ1.length) (hw : ∀ (i : Nat) (x : SV), ρ2[i]? = some (some x) → ρ1[i]? = some (some x) ∧ okV n x) : XM K t ρ μ (.nx ρ2 (μ1.take n)) := fun L0 H0 Hm0 E σ H Hm α S f =>
  h L0 H0 Hm0 E σ H Hm α S fun σ' H' Hm' α' x p S' => f σ' H' Hm' (α'.take n) x (pre_cut p (by rw [S.sto.len]; exact hn)) ⟨S'.gr, by rw [hl]; exact S'.len, fun i x hi => by
    obtain ⟨h1, h2⟩ := hw i x hi
    obtain ⟨v, h3, h4⟩ := S'.sd i x h1
    exact ⟨v, h3, h4.cut h2⟩, S'.sto.take n (cl_ok hc), fun a ha => S'.fr a (List.mem_of_mem_take ha)⟩
theorem xm_lessR (h : XM K t ρ μ (.rt x μ1)) (n : Nat) (hn : μ.length ≤ n) (hc : cl n μ1 = true) (hx : okV n x) : XM K t ρ μ (.rt x (μ1.take n)) := fun L0 H0 Hm0 E σ H Hm α S f =>
  h L0 H0 Hm0 E σ H Hm α S fun v H' Hm' α' p g S' fr hv => f v H' Hm' (α'.take n) (pre_cut p (by rw [S.sto.len]; exact hn)) g (S'.take n (cl_ok hc)) (fun a ha => fr a (List.mem_of_mem_take ha)) (hv.cut hx)
/-- a cell's word made weaker -/
def MOle (m m' : MO) : Prop := ∀ (K : PySem.W.Frag) H Hm α a, MOk K H Hm α a m → MOk K H Hm α a m'
def MuLe (μ μ' : Mu) : Prop := μ.length = μ'.length ∧ ∀ (n : Nat) (m m' : MO), μ[n]? = some m → μ'[n]? = some m' → MOle m m'
theorem MOle.refl (m : MO) : MOle m m := fun _ _ _ _ _ h => h
theorem MuLe.cons {m m' : MO} (h : MOle m m') (t : MuLe μ μ1) : MuLe (m :: μ) (m' :: μ1) := by
  refine ⟨by rw [List.length_cons, List.length_cons, t.1], fun n a b h1 h2 => ?_⟩
  cases n with
  | zero =>
    cases h1
    cases h2
    exact h
  | succ n => exact t.2 n a b (by simpa using h1) (by simpa using h2)
theorem MuLe.refl (μ : Mu) : MuLe μ μ := ⟨rfl, fun n m m' h1 h2 => by rw [h1] at h2; cases h2; exact MOle.refl m⟩
theorem Sto.le (S : Sto K H Hm α μ) (h : MuLe μ μ1) : Sto K H Hm α μ1 := ⟨S.len.trans h.1, S.nd, S.hm, fun n a m h1 h2 => by
  obtain ⟨m', h3, h4⟩ := S.at h1
  exact h.2 n m' m h3 h2 K _ _ _ _ h4⟩
theorem xm_weak (h : XM K t ρ μ (.nx ρ1 μ1)) (l : MuLe μ1 μ2) : XM K t ρ μ (.nx ρ1 μ2) := fun L0 H0 Hm0 E σ H Hm α S f =>
  h L0 H0 Hm0 E σ H Hm α S fun σ' H' Hm' α' x p S' => f σ' H' Hm' α' x p ⟨S'.gr, S'.len, S'.sd, S'.sto.le l, S'.fr⟩
theorem xm_weakR (h : XM K t ρ μ (.rt x μ1)) (l : MuLe μ1 μ2) : XM K t ρ μ (.rt x μ2) := fun L0 H0 Hm0 E σ H Hm α S f =>
  h L0 H0 Hm0 E σ H Hm α S fun v H' Hm' α' p g S' fr hv => f v H' Hm' α' p g (S'.le l) fr hv
/-- a, b = e -/
theorem xm_unp {d d' : D} (h : EX K te ρ μ (.d (.tuple [d, d'])) μ2) : XM K (tAsg te (gTup K 2 (gCons (gName i) (gCons (gName j) gNil)))) ρ μ (.nx ((ρ.set i (some (.d d))).set j (some (.d d'))) μ2) := fun L0 H0 Hm0 E σ H Hm α S f =>
  h σ H Hm α S.gr.sub S.len S.sd S.sto _ fun vt H2 Hm2 α2 A hvt => by
    obtain ⟨a, xs, rfl, hx, hvs⟩ := dp_tup hvt
    obtain ⟨v, v', rfl, hv, hv'⟩ := dps2 hvs
    exact ⟨a, [v, v'], rfl, ex_t A.gr.sub hx, rfl, v, [v'], rfl, v', [], rfl, rfl, f _ H2 Hm2 α2 A.gr.em A.pre (((S.aft A).set (x := .d d) hv).set (x := .d d') hv')⟩
/-- xs.append(e) -/
theorem xm_app (hi : ρ[i]? = some (some (.o n))) (hm : μ[n]? = some (.lst ds)) (h : EX K te ρ μ (.d d) μ2) (hm2 : μ2[n]? = some (.lst ds)) (hz : ds.length ≤ 90000 := by first | assumption | decide | omega) :
    XM K (tDrop (tBM K "list" rAppend (tVar i) (tCons te tNil))) ρ μ (.nx ρ (μ2.set n (.lst (ds ++ [d])))) := fun L0 H0 Hm0 E σ H Hm α S f => by
  obtain ⟨v, h1, a, ha, rfl⟩ := S.sd i _ hi
  obtain ⟨vs, k1, k2⟩ := S.sto.ok n a _ ha hm
  refine ⟨.ref a, h1, .inl ⟨rfl, vs, .inl (.inl k1)⟩, ?_⟩
  refine h σ H Hm α S.gr.sub S.len S.sd S.sto _ fun v H2 Hm2 α2 A hv => ?_
  have ha2 := pre_get A.pre ha
  obtain ⟨ws, k3, k4⟩ := A.sto.ok n a _ ha2 hm2
  refine ⟨a, ws, v, rfl, rfl, k3, sz_lt (by rw [k4.len]; omega), ?_⟩
  have B := A.trans (Aft.put A.gr.sub A.sto (o := .lst (ws ++ [v])) (m := .lst (ds ++ [d])) ha2 ⟨ws ++ [v], upd_same, k4.snoc hv⟩)
  exact f σ _ Hm2 α2 B.gr.em B.pre (S.aft B)
/-- xs.extend(e) -/
theorem xm_ext (hi : ρ[i]? = some (some (.o n))) (hm : μ[n]? = some (.lst ds)) (h : EX K te ρ μ (.d d) μ2) (hm2 : μ2[n]? = some (.lst ds)) (hd : d = .list es ∨ d = .tuple es) (hz : ds.length + es.length ≤ 90000 := by first | assumption | decide | omega) :
    XM K (tDrop (tBM K "list" (rExtA K) (tVar i) (tCons te tNil))) ρ μ (.nx ρ (μ2.set n (.lst (ds ++ es)))) := fun L0 H0 Hm0 E σ H Hm α S f => by
  obtain ⟨v, h1, a, ha, rfl⟩ := S.sd i _ hi
  obtain ⟨vs, k1, k2⟩ := S.sto.ok n a _ ha hm
  refine ⟨.ref a, h1, .inl ⟨rfl, vs, .inl (.inl k1)⟩, ?_⟩
  refine h σ H Hm α S.gr.sub S.len S.sd S.sto _ fun v H2 Hm2 α2 A hv => ?_
  have ha2 := pre_get A.pre ha
  obtain ⟨ws, k3, k4⟩ := A.sto.ok n a _ ha2 hm2
  obtain ⟨b, zs, rfl, hb, hzs⟩ : ∃ b zs, v = .ref b ∧ (SqL K H2 b zs ∨ SqT K H2 b zs) ∧ DpAll K Hm2 zs es := by
    rcases hd with rfl | rfl
    · obtain ⟨b, zs, e, h5, h6⟩ := dp_lst hv
      exact ⟨b, zs, e, .inl (ex_l A.gr.sub h5), h6⟩
    · obtain ⟨b, zs, e, h5, h6⟩ := dp_tup hv
      exact ⟨b, zs, e, .inr (ex_t A.gr.sub h5), h6⟩
  refine ⟨a, b, ws, zs, rfl, rfl, k3, hb, sz_of (by rw [k4.len, hzs.len]; omega), ?_⟩
  have B := A.trans (Aft.put A.gr.sub A.sto (o := .lst (ws ++ zs)) (m := .lst (ds ++ es)) ha2 ⟨ws ++ zs, upd_same, k4.app hzs⟩)
  exact f σ _ Hm2 α2 B.gr.em B.pre (S.aft B)
/-- the attributes behind a store -/
def putS (f : Str) (x : SV) : List (Str × SV) → List (Str × SV)
  | [] => [(f, x)]
  | p :: ps => if p.1 = f then (f, x) :: ps else p :: putS f x ps
theorem FAll.put {f : Str} {v : V} (hv : Dx K Hm α v x) : ∀ {vs : List (Str × V)} {xs : List (Str × SV)}, FAll K Hm α vs xs → FAll K Hm α (putF f v vs) (putS f x xs)
  | _, _, .nil => .cons hv .nil
  | _, _, .cons (f := g) h t => by
    unfold putF putS
    by_cases e : g = f
    · rw [if_pos e]
      simp only [e, if_true]
      exact .cons hv t
    · rw [if_neg e]
      simp only [e, if_false]
      exact .cons h (FAll.put hv t)
/-- o.f = e, o in slot i -/
theorem xm_fld {C : Addr} {fs : List (Str × SV)} {f : Str} (h : EX K te ρ μ x μ2) (hi : ρ[i]? = some (some (.o n))) (hm : μ2[n]? = some (.ins C fs)) (c : Cls K C) (na : NoAttr K C f) (hz : fs.length < 1000 := by decide) :
    XM K (sFld K (tVar i) te f) ρ μ (.nx ρ (μ2.set n (.ins C (putS f x fs)))) := fun L0 H0 Hm0 E σ H Hm α S g =>
  h σ H Hm α S.gr.sub S.len S.sd S.sto _ fun v H2 Hm2 α2 A hv => by
    obtain ⟨w, h1, a, ha, rfl⟩ := (S.aft A).sd i _ hi
    obtain ⟨dx, vs, k1, k2⟩ := A.sto.ok n a _ ha hm
    refine ⟨.ref a, h1, a, C, dx, vs, rfl, k1, c, na, by rw [k2.len]; exact hz, ?_⟩
    have B := A.trans (Aft.put A.gr.sub A.sto (o := .ins C dx (putF f v vs)) (m := .ins C (putS f x fs)) ha ⟨dx, _, upd_same, k2.put hv⟩)
    exact g σ _ Hm2 α2 B.gr.em B.pre (S.aft B)
end

/-! ### loops -/
def GoX (K : PySem.W.Frag) (tu : TS) (j : Nat) (items : List D) (ρs : Nat → Rx) (μs : Nat → Mu) (o : OutX) : Prop :=
  ∃ m, m ≤ items.length ∧ (∀ i d, i < m → items[i]? = some d → XM K tu ((ρs i).set j (some (.d d))) (μs i) (.nx (ρs (i + 1)) (μs (i + 1)))) ∧
    ((m = items.length ∧ o = .nx (ρs m) (μs m)) ∨ ∃ d, items[m]? = some d ∧ ((∃ r μ', o = .rt r μ' ∧ XM K tu ((ρs m).set j (some (.d d))) (μs m) (.rt r μ')) ∨ ∃ ρ' μ', o = .nx ρ' μ' ∧ XM K tu ((ρs m).set j (some (.d d))) (μs m) (.bk ρ' μ')))
theorem GoX.all {K : PySem.W.Frag} {tu : TS} {j : Nat} {items : List D} {ρs : Nat → Rx} {μs : Nat → Mu} (h : ∀ i d, items[i]? = some d → XM K tu ((ρs i).set j (some (.d d))) (μs i) (.nx (ρs (i + 1)) (μs (i + 1)))) : GoX K tu j items ρs μs (.nx (ρs items.length) (μs items.length)) :=
  ⟨items.length, Nat.le_refl _, fun i d _ hd => h i d hd, .inl ⟨rfl, rfl⟩⟩
def GoXI (K : PySem.W.Frag) (L0 : List Addr) (H0 Hm0 Hb : Hp) (αb : List Addr) (ρs : Nat → Rx) (μs : Nat → Mu) (m i : Nat) (σ : L2.St) (H : Hp) : Prop := i ≤ m ∧ ∃ Hm α, Ex Hb Hm ∧ αb <+: α ∧ SM K L0 H0 Hm0 H Hm σ (ρs i) α (μs i)
section
variable {K : PySem.W.Frag} {L0 : List Addr} {H0 Hm0 H Hm H2 Hm2 Hb Hb2 : Hp} {σ : L2.St} {ρ ρ1 ρ2 : Rx} {α α2 αb : List Addr} {μ μ1 μ2 μ3 : Mu} {E : Ends} {o : OutX} {t u w tu : TS} {te ta tl : TE} {tt : TT} {x y : SV} {d : D} {ds es items : List D} {i j n m : Nat} {ρs : Nat → Rx} {μs : Nat → Mu} {v : V}
theorem gox_turn
    (h1 : ∀ i d, i < m → items[i]? = some d → XM K tu ((ρs i).set j (some (.d d))) (μs i) (.nx (ρs (i + 1)) (μs (i + 1))))
    (h2 : (m = items.length ∧ o = .nx (ρs m) (μs m)) ∨ ∃ d, items[m]? = some d ∧ ((∃ r μ', o = .rt r μ' ∧ XM K tu ((ρs m).set j (some (.d d))) (μs m) (.rt r μ')) ∨ ∃ ρ' μ', o = .nx ρ' μ' ∧ XM K tu ((ρs m).set j (some (.d d))) (μs m) (.bk ρ' μ')))
    (f : FnX K L0 H0 Hm0 Hb αb E o) (hi : items[i]? = some d) (hv : Dp K Hb v d) (c : GoXI K L0 H0 Hm0 Hb αb ρs μs m i σ H) :
    tu { E with nx := GoXI K L0 H0 Hm0 Hb αb ρs μs m (i + 1), ct := GoXI K L0 H0 Hm0 Hb αb ρs μs m (i + 1), bk := E.nx } (σ.set j (some v)) H := by
  obtain ⟨hm, Hm, α, em, pa, S⟩ := c
  have S' := S.set (i := j) (x := .d d) (Dp.mono hv em)
  by_cases hlt : i < m
  · exact h1 i d hlt hi L0 H0 Hm0 _ _ H Hm α S' fun σ' H' Hm' α' x p S2 => ⟨hlt, Hm', α', em.trans x, pa.trans p, S2⟩
  · have e : i = m := by omega
    subst e
    rcases h2 with ⟨z, _⟩ | ⟨d2, hd2, h3⟩
    · rw [List.getElem?_eq_none (by omega)] at hi; cases hi
    · rw [hi] at hd2
      cases hd2
      rcases h3 with ⟨r, μ', rfl, hx⟩ | ⟨ρ', μ', rfl, hx⟩
      · exact hx L0 H0 Hm0 _ _ H Hm α S' fun v H' Hm' α' p g S2 fr hv' => f v H' Hm' α' (pa.trans p) g S2 fr hv'
      · exact hx L0 H0 Hm0 _ _ H Hm α S' fun σ' H' Hm' α' x p S2 => f σ' H' Hm' α' (em.trans x) (pa.trans p) S2
theorem gox_end (hm : m ≤ items.length)
    (h2 : (m = items.length ∧ o = .nx (ρs m) (μs m)) ∨ ∃ d, items[m]? = some d ∧ ((∃ r μ', o = .rt r μ' ∧ XM K tu ((ρs m).set j (some (.d d))) (μs m) (.rt r μ')) ∨ ∃ ρ' μ', o = .nx ρ' μ' ∧ XM K tu ((ρs m).set j (some (.d d))) (μs m) (.bk ρ' μ')))
    (f : FnX K L0 H0 Hm0 Hb αb E o) (c : GoXI K L0 H0 Hm0 Hb αb ρs μs m items.length σ H) : E.nx σ H := by
  obtain ⟨hle, Hm, α, em, pa, S⟩ := c
  rcases h2 with ⟨z, rfl⟩ | ⟨d2, hd2, _⟩
  · rw [← z] at S
    exact f σ H Hm α em pa S
  · rw [List.getElem?_eq_none (by omega)] at hd2; cases hd2
theorem xm_forT (ρs : Nat → Rx) (μs : Nat → Mu) (hsrc : EX K tl ρ μ (.d (.tuple items)) μ1) (h0 : ρs 0 = ρ) (h0' : μs 0 = μ1) (g : GoX K tu j items ρs μs o) : XM K (tFor (iTup K tl) (gName j) tu) ρ μ o := fun L0 H0 Hm0 E σ H Hm α S f => by
  obtain ⟨m, hm, h1, h2⟩ := g
  refine hsrc σ H Hm α S.gr.sub S.len S.sd S.sto _ fun v H1 Hm1 α1 A hv => ?_
  have S1 := S.aft A
  have f1 := f.mono A.gr.em A.pre
  obtain ⟨a, xs, rfl, hx, ha⟩ := dp_tup hv
  have hl := ha.len
  refine ⟨a, rfl, ⟨xs, ex_t S1.gr.sub hx⟩, ?_⟩
  refine for_tup (xs := xs) (GoXI K L0 H0 Hm0 Hm1 α1 ρs μs m) ⟨Nat.zero_le _, Hm1, α1, Ex.refl _, List.prefix_refl _, by rw [h0, h0']; exact S1⟩ (fun i σ' H' _ c => ?_) (fun i x σ' H' hi c => ?_) (fun σ' H' c => ?_)
  · obtain ⟨_, Hm', α', x, _, S'⟩ := c
    exact ex_t S'.gr.sub (ex_t x hx)
  · obtain ⟨d, hd, hxd⟩ := ha.get' hi
    exact gox_turn h1 h2 f1 hd hxd c
  · rw [hl] at c
    exact gox_end hm h2 f1 c
theorem xm_forL (ρs : Nat → Rx) (μs : Nat → Mu) (hsrc : EX K tl ρ μ (.d (.list items)) μ1) (h0 : ρs 0 = ρ) (h0' : μs 0 = μ1) (g : GoX K tu j items ρs μs o) : XM K (tFor (iList K tl) (gName j) tu) ρ μ o := fun L0 H0 Hm0 E σ H Hm α S f => by
  obtain ⟨m, hm, h1, h2⟩ := g
  refine hsrc σ H Hm α S.gr.sub S.len S.sd S.sto _ fun v H1 Hm1 α1 A hv => ?_
  have S1 := S.aft A
  have f1 := f.mono A.gr.em A.pre
  obtain ⟨a, xs, rfl, hx, ha⟩ := dp_lst hv
  have hl := ha.len
  refine ⟨a, rfl, ⟨xs, ex_l S1.gr.sub hx⟩, ?_⟩
  refine for_list (xs := xs) (GoXI K L0 H0 Hm0 Hm1 α1 ρs μs m) ⟨Nat.zero_le _, Hm1, α1, Ex.refl _, List.prefix_refl _, by rw [h0, h0']; exact S1⟩ (fun i σ' H' _ c => ?_) (fun i x σ' H' hi c => ?_) (fun σ' H' c => ?_)
  · obtain ⟨_, Hm', α', x, _, S'⟩ := c
    exact ex_l S'.gr.sub (ex_l x hx)
  · obtain ⟨d, hd, hxd⟩ := ha.get' hi
    exact gox_turn h1 h2 f1 hd hxd c
  · rw [hl] at c
    exact gox_end hm h2 f1 c
theorem xm_forR1 {ta : TA} {n : Int} (ρs : Nat → Rx) (μs : Nat → Mu) (hsrc : EXs K ta ρ μ [.d (.int n)] μ1) (hn : n ≤ 1000000000) (hn0 : -1000000000 ≤ n) (h0 : ρs 0 = ρ) (h0' : μs 0 = μ1) (g : GoX K tu j (rngD 0 n.toNat) ρs μs o) : XM K (tFor (iRng1 ta) (gName j) tu) ρ μ o := fun L0 H0 Hm0 E σ H Hm α S f => by
  obtain ⟨m, hm, h1, h2⟩ := g
  refine hsrc σ H Hm α S.gr.sub S.len S.sd S.sto _ fun vs H1 Hm1 α1 A hv => ?_
  have S1 := S.aft A
  have f1 := f.mono A.gr.em A.pre
  have ev : vs = [.int n] := dp_ints (ns := [n]) (DxAll.data (ds := [.int n]) hv)
  subst ev
  have hl := rngD_len 0 n.toNat
  refine ⟨n, rfl, by omega, by omega, ?_⟩
  refine for_range (lo := 0) (n := n.toNat) (GoXI K L0 H0 Hm0 Hm1 α1 ρs μs m) ⟨Nat.zero_le _, Hm1, α1, Ex.refl _, List.prefix_refl _, by rw [h0, h0']; exact S1⟩ (fun i σ' H' hi c => ?_) (fun σ' H' c => ?_)
  · exact gox_turn h1 h2 f1 (rngD_get hi) (.int _) c
  · rw [← hl] at c
    exact gox_end hm h2 f1 c
/-- while, turn by turn -/
inductive WhX (K : PySem.W.Frag) (tt : TT) (tu : TS) : Nat → Rx → Mu → OutX → Prop
  | stop {ρ : Rx} {μ μ1 : Mu} : TX K tt ρ μ false μ1 → WhX K tt tu 0 ρ μ (.nx ρ μ1)
  | brk {ρ : Rx} {μ μ1 : Mu} {ρ' : Rx} {μ' : Mu} : TX K tt ρ μ true μ1 → XM K tu ρ μ1 (.bk ρ' μ') → WhX K tt tu 0 ρ μ (.nx ρ' μ')
  | ret {ρ : Rx} {μ μ1 : Mu} {x : SV} {μ' : Mu} : TX K tt ρ μ true μ1 → XM K tu ρ μ1 (.rt x μ') → WhX K tt tu 0 ρ μ (.rt x μ')
  | step {m : Nat} {ρ : Rx} {μ μ1 : Mu} {ρ' : Rx} {μ' : Mu} {o : OutX} : TX K tt ρ μ true μ1 → XM K tu ρ μ1 (.nx ρ' μ') → WhX K tt tu m ρ' μ' o → WhX K tt tu (m + 1) ρ μ o
theorem xm_wh (h : WhX K tt tu m ρ μ o) : XM K (tWhile tt tu) ρ μ o := fun L0 H0 Hm0 E σ H Hm α S f => by
  refine ⟨fun k σ' H' => ∃ ρ' μ' Hm' α', WhX K tt tu k ρ' μ' o ∧ Ex Hm Hm' ∧ α <+: α' ∧ SM K L0 H0 Hm0 H' Hm' σ' ρ' α' μ', ⟨m, ρ, μ, Hm, α, h, Ex.refl _, List.prefix_refl _, S⟩, ?_⟩
  rintro k σ1 H1 ⟨ρ', μ', Hm1, α1, hw, e1, p1, S1⟩
  cases hw with
  | stop c1 =>
    refine c1 σ1 H1 Hm1 α1 S1.gr.sub S1.len S1.sd S1.sto _ fun H2 Hm2 α2 A => ?_
    simp only [Bool.false_eq_true, if_false]
    exact f σ1 H2 Hm2 α2 (e1.trans A.gr.em) (p1.trans A.pre) (S1.aft A)
  | brk c1 c2 =>
    refine c1 σ1 H1 Hm1 α1 S1.gr.sub S1.len S1.sd S1.sto _ fun H2 Hm2 α2 A => ?_
    simp only [if_true]
    exact ⟨fun _ _ => False, fun _ _ z => z.elim, c2 L0 H0 Hm0 { E with nx := fun _ _ => False, ct := fun _ _ => False, bk := E.nx } σ1 H2 Hm2 α2 (S1.aft A) fun σ' H' Hm' α' x p S' => f σ' H' Hm' α' ((e1.trans A.gr.em).trans x) ((p1.trans A.pre).trans p) S'⟩
  | ret c1 c2 =>
    refine c1 σ1 H1 Hm1 α1 S1.gr.sub S1.len S1.sd S1.sto _ fun H2 Hm2 α2 A => ?_
    simp only [if_true]
    exact ⟨fun _ _ => False, fun _ _ z => z.elim, c2 L0 H0 Hm0 { E with nx := fun _ _ => False, ct := fun _ _ => False, bk := E.nx } σ1 H2 Hm2 α2 (S1.aft A) fun v H' Hm' α' p g S' fr hv => f v H' Hm' α' ((p1.trans A.pre).trans p) g S' fr hv⟩
  | @step m' _ _ _ ρ2 μ2 _ c1 c2 c3 =>
    refine c1 σ1 H1 Hm1 α1 S1.gr.sub S1.len S1.sd S1.sto _ fun H2 Hm2 α2 A => ?_
    simp only [if_true]
    exact ⟨_, fun σ' H' hN => hN, c2 L0 H0 Hm0 { E with nx := fun σ' H' => ∃ k', k' < m' + 1 ∧ ∃ ρ' μ' Hm' α', WhX K tt tu k' ρ' μ' o ∧ Ex Hm Hm' ∧ α <+: α' ∧ SM K L0 H0 Hm0 H' Hm' σ' ρ' α' μ', ct := fun σ' H' => ∃ k', k' < m' + 1 ∧ ∃ ρ' μ' Hm' α', WhX K tt tu k' ρ' μ' o ∧ Ex Hm Hm' ∧ α <+: α' ∧ SM K L0 H0 Hm0 H' Hm' σ' ρ' α' μ', bk := E.nx } σ1 H2 Hm2 α2 (S1.aft A) fun σ' H' Hm' α' x p S' => ⟨m', Nat.lt_succ_self _, ρ2, μ2, Hm', α', c3, (e1.trans A.gr.em).trans x, (p1.trans A.pre).trans p, S'⟩⟩
end
end LM

set_option Elab.async false
set_option linter.all false
set_option maxRecDepth 100000
set_option maxHeartbeats 1000000
/-! Lm11: comprehensions, calls, defs over cells. -/
namespace LM
open PySem PySem.Spec PyProof.Rows L2 Evl
section
variable {K : PySem.W.Frag} {H0 Hm0 H Hm H1 Hm1 H2 Hm2 H' : Hp} {σ : L2.St} {ρ ρ1 ρ2 : Rx} {α α1 α2 β : List Addr} {μ μ1 μ2 μ3 : Mu} {t u w : TS} {te ta tl : TE} {tt : TT} {x y : SV} {d d' : D} {ds es items : List D} {i j n : Nat} {Dl p : Addr} {vs : List V} {v : V}
/-- a list of one's own is shown -/
theorem Aft.show (A : Aft K α H Hm μ α2 H2 Hm2) (hp : H p = none) (hm : Hm2 p = none) (na : p ∉ α2) (h2 : H2 p = some (.lst vs)) : Aft K α H Hm μ α2 H2 (upd Hm2 p (.lst vs)) := by
  have em : Ex Hm2 (upd Hm2 p (.lst vs)) := Ex.new hm
  refine ⟨A.pre, A.nw, ⟨A.gr.ex, A.gr.th, A.gr.em.trans em, fun b o h => ?_, fun b o h n => ?_⟩, ⟨A.sto.len, A.sto.nd, fun b hb => ?_, fun k b m h1 h3 => (A.sto.ok k b m h1 h3).move (fun _ e => e) em (List.prefix_refl _)⟩⟩
  · by_cases e : b = p
    · subst e; rw [upd_same] at h; cases h; exact h2
    · rw [upd_ne e] at h; exact A.gr.sub b o h
  · rw [upd_ne (ne_of_none h hp)]; exact A.gr.own b o h n
  · have : b ≠ p := fun e => na (e ▸ hb)
    rw [upd_ne this]; exact A.sto.hm b hb
/-- .. is changed, while it stands apart -/
theorem Aft.apart (A : Aft K α H Hm μ α2 H2 Hm2) (hp : H p = none) (hm : Hm2 p = none) (na : p ∉ α2) {o : HO} : Aft K α H Hm μ α2 (upd H2 p o) Hm2 := by
  refine ⟨A.pre, A.nw, ⟨fun b u nb h => ?_, fun b u h => ?_, A.gr.em, upd_sub A.gr.sub hm, A.gr.own⟩, ⟨A.sto.len, A.sto.nd, A.sto.hm, fun k b m h1 h3 => ?_⟩⟩
  · rw [upd_ne (ne_of_none h hp)]; exact A.gr.ex b u nb h
  · rw [upd_ne (ne_of_none h hp)]; exact A.gr.th b u h
  · have : b ≠ p := fun e => na (e ▸ List.mem_of_getElem? h1)
    exact (A.sto.ok k b m h1 h3).move (fun o' e => by rw [upd_ne this]; exact e) (Ex.refl _) (List.prefix_refl _)
def CpX (K : PySem.W.Frag) (α : List Addr) (H1 Hm1 : Hp) (Dl : Addr) (μ : Mu) (es : List D) (H' : Hp) : Prop := ∃ Hm' α' acc, Aft K α H1 Hm1 μ α' H' Hm' ∧ Hm' Dl = none ∧ Dl ∉ α' ∧ H' Dl = some (.lst acc) ∧ DpAll K Hm' acc es
def TurnX (K : PySem.W.Frag) (t : TT) (te : TE) (ρ : Rx) (j : Nat) (d : D) (μ μ2 : Mu) (es es2 : List D) : Prop :=
  ∃ b μm, TX K t ((wipeX ρ [j]).set j (some (.d d))) μ b μm ∧ (b = true → ∃ d', EX K te ((wipeX ρ [j]).set j (some (.d d))) μm (.d d') μ2 ∧ es2 = es ++ [d']) ∧ (b = false → μm = μ2 ∧ es2 = es)
theorem cpx_start (s : Ex Hm1 H1) (S : Sto K H1 Hm1 α μ) (hD : H1 Dl = none) : CpX K α H1 Hm1 Dl μ [] (upd H1 Dl (.lst [])) :=
  ⟨Hm1, α, [], Aft.ofGr S (Gr.priv s hD), fresh_back s hD, S.fresh hD, upd_same, .nil⟩
theorem cpx_turn {t : TT} (hD : H1 Dl = none) (s1 : Ex Hm1 H1) (l : ρ.length ≤ σ.length) (hs : Sx K Hm1 α σ ρ) (hx : Dp K Hm1 v d) (p : CpX K α H1 Hm1 Dl μ es H') (hz : es.length < 100000) (T : TurnX K t te ρ j d μ μ2 es ds) :
    t ((wipe σ [j]).set j (some v)) H' fun c H3 => if c = true then te ((wipe σ [j]).set j (some v)) H3 fun y H4 => ∃ acc, H4 Dl = some (.lst acc) ∧ acc.length < sizeLine ∧ CpX K α H1 Hm1 Dl μ2 ds (upd H4 Dl (.lst (acc ++ [y])))
      else CpX K α H1 Hm1 Dl μ2 ds H3 := by
  obtain ⟨Hm', α', acc, A, n1, n2, n3, n4⟩ := p
  obtain ⟨b, μm, ht, he, hf⟩ := T
  have l2 : ((wipeX ρ [j]).set j (some (.d d))).length ≤ ((wipe σ [j]).set j (some v)).length := by rw [List.length_set, List.length_set, wipeX_length, wipe_length]; exact l
  have l3 : (wipeX ρ [j]).length ≤ (wipe σ [j]).length := by rw [wipeX_length, wipe_length]; exact l
  have S : Sx K Hm' α' ((wipe σ [j]).set j (some v)) ((wipeX ρ [j]).set j (some (.d d))) := ((hs.aft A).wipe [j]).set l3 j (Dp.mono hx A.gr.em)
  refine ht _ H' Hm' α' A.gr.sub l2 S A.sto _ fun H3 Hm3 α3 A3 => ?_
  have keep : ∀ {H4 Hm4 α4 μ4}, Aft K α' H' Hm' μ4 α4 H4 Hm4 → Hm4 Dl = none ∧ Dl ∉ α4 ∧ H4 Dl = some (.lst acc) ∧ DpAll K Hm4 acc es := fun A4 =>
    ⟨A4.gr.own _ _ n3 n1, (fun h => by have := A4.nw Dl h n2; rw [n3] at this; cases this), A4.gr.ex _ _ n2 n3, n4.mono A4.gr.em⟩
  cases b with
  | true =>
    simp only [if_true]
    obtain ⟨e', he', rfl⟩ := he rfl
    refine he' _ H3 Hm3 α3 A3.gr.sub l2 (S.aft A3) A3.sto _ fun y H4 Hm4 α4 A4 hy => ?_
    have A5 := A3.trans A4
    obtain ⟨k1, k2, k3, k4⟩ := keep A5
    exact ⟨acc, k3, sz_lt (by rw [n4.len]; exact hz), Hm4, α4, acc ++ [y], (A.trans A5).apart hD k1 k2, k1, k2, upd_same, k4.snoc hy⟩
  | false =>
    simp only [Bool.false_eq_true, if_false]
    obtain ⟨rfl, rfl⟩ := hf rfl
    obtain ⟨k1, k2, k3, k4⟩ := keep A3
    exact ⟨Hm3, α3, acc, A.trans A3, k1, k2, k3, k4⟩
theorem cpx_end {Q : VK} (hD : H1 Dl = none) (c : CpX K α H1 Hm1 Dl μ es H') (q : ∀ v H2 Hm2 α2, Aft K α H1 Hm1 μ α2 H2 Hm2 → Dx K Hm2 α2 v (.d (.list es)) → Q v H2) : Q (.ref Dl) H' := by
  obtain ⟨Hm', α', acc, A, n1, n2, n3, n4⟩ := c
  exact q _ _ _ α' (A.show hD n1 n2 n3) (Dp.lst (.inl (.inl upd_same)) (n4.mono (Ex.new n1)))
theorem ex_lcT {t : TT} (μs : Nat → Mu) (esf : Nat → List D) (h0 : esf 0 = []) (hsrc : EX K tl ρ μ (.d (.tuple items)) (μs 0)) (turn : ∀ i d, items[i]? = some d → TurnX K t te ρ j d (μs i) (μs (i + 1)) (esf i) (esf (i + 1))) (hz : ∀ i, i ≤ items.length → (esf i).length ≤ 50000) :
    EX K (tLc (iTup K tl) (gName j) t te [j]) ρ μ (.d (.list (esf items.length))) (μs items.length) := fun σ H Hm α s l hs S Q q => by
  refine hsrc σ H Hm α s l hs S _ fun v H1 Hm1 α1 A1 h1 => ?_
  obtain ⟨a, xs, rfl, hx, ha⟩ := dp_tup h1
  refine ⟨a, rfl, ⟨xs, ex_t A1.gr.sub hx⟩, fun Dl hD => ?_⟩
  have hl := ha.len
  refine lc_tup (xs := xs) (fun i H' => CpX K α1 H1 Hm1 Dl (μs i) (esf i) H') ?_ (fun i H' _ c => ?_) (fun i x H' hi c => ?_) (fun H' c => ?_)
  · rw [h0]; exact cpx_start A1.gr.sub A1.sto hD
  · obtain ⟨_, _, _, A, _⟩ := c
    exact ex_t A.gr.sub (ex_t A.gr.em hx)
  · obtain ⟨d, hd, hxd⟩ := ha.get' hi
    exact ⟨wipe_back, cpx_turn hD A1.gr.sub l (hs.aft A1) hxd c (by have := hz i (by have := (List.getElem?_eq_some_iff.mp hd).1; omega); omega) (turn i d hd)⟩
  · rw [hl] at c
    exact cpx_end hD c fun v H2 Hm2 α2 A h => q v H2 Hm2 α2 (A1.trans A) h
theorem ex_lcL {t : TT} (μs : Nat → Mu) (esf : Nat → List D) (h0 : esf 0 = []) (hsrc : EX K tl ρ μ (.d (.list items)) (μs 0)) (turn : ∀ i d, items[i]? = some d → TurnX K t te ρ j d (μs i) (μs (i + 1)) (esf i) (esf (i + 1))) (hz : ∀ i, i ≤ items.length → (esf i).length ≤ 50000) :
    EX K (tLc (iList K tl) (gName j) t te [j]) ρ μ (.d (.list (esf items.length))) (μs items.length) := fun σ H Hm α s l hs S Q q => by
  refine hsrc σ H Hm α s l hs S _ fun v H1 Hm1 α1 A1 h1 => ?_
  obtain ⟨a, xs, rfl, hx, ha⟩ := dp_lst h1
  refine ⟨a, rfl, ⟨xs, ex_l A1.gr.sub hx⟩, fun Dl hD => ?_⟩
  have hl := ha.len
  refine lc_list (xs := xs) (fun i H' => CpX K α1 H1 Hm1 Dl (μs i) (esf i) H') ?_ (fun i H' _ c => ?_) (fun i x H' hi c => ?_) (fun H' c => ?_)
  · rw [h0]; exact cpx_start A1.gr.sub A1.sto hD
  · obtain ⟨_, _, _, A, _⟩ := c
    exact ex_l A.gr.sub (ex_l A.gr.em hx)
  · obtain ⟨d, hd, hxd⟩ := ha.get' hi
    exact ⟨wipe_back, cpx_turn hD A1.gr.sub l (hs.aft A1) hxd c (by have := hz i (by have := (List.getElem?_eq_some_iff.mp hd).1; omega); omega) (turn i d hd)⟩
  · rw [hl] at c
    exact cpx_end hD c fun v H2 Hm2 α2 A h => q v H2 Hm2 α2 (A1.trans A) h
theorem ex_lcR1 {t : TT} {ts : TA} {k : Int} (μs : Nat → Mu) (esf : Nat → List D) (h0 : esf 0 = []) (hsrc : EXs K ts ρ μ [.d (.int k)] (μs 0)) (hk : 0 ≤ k ∧ k ≤ 50000) (turn : ∀ i : Nat, (i : Int) < k → TurnX K t te ρ j (.int (i : Int)) (μs i) (μs (i + 1)) (esf i) (esf (i + 1))) (hz : ∀ i : Nat, (i : Int) ≤ k → (esf i).length ≤ 50000) :
    EX K (tLc (iRng1 ts) (gName j) t te [j]) ρ μ (.d (.list (esf k.toNat))) (μs k.toNat) := fun σ H Hm α s l hs S Q q => by
  refine hsrc σ H Hm α s l hs S _ fun vs H1 Hm1 α1 A1 h1 => ?_
  have ev : vs = [.int k] := dp_ints (ns := [k]) (DxAll.data (ds := [.int k]) h1)
  subst ev
  refine ⟨k, rfl, by omega, by omega, fun Dl hD => ?_⟩
  refine lc_range (lo := 0) (n := k.toNat) (Qd := Q (.ref Dl)) (fun i H' => CpX K α1 H1 Hm1 Dl (μs i) (esf i) H') ?_ (fun i H' hi c => ?_) (fun H' c => ?_)
  · rw [h0]; exact cpx_start A1.gr.sub A1.sto hD
  · refine ⟨wipe_back, ?_⟩
    have T := turn i (by omega)
    rw [show (.int (0 + (i : Int)) : V) = .int (i : Int) by rw [Int.zero_add]]
    exact cpx_turn hD A1.gr.sub l (hs.aft A1) (.int _) c (by have := hz i (by omega); omega) T
  · exact cpx_end hD c fun v H2 Hm2 α2 A h => q v H2 Hm2 α2 (A1.trans A) h
theorem tx_yes : TX K tYes ρ μ true μ := fun _ H Hm α s _ _ S _ q => q H Hm α (Aft.refl s S)
theorem turn_map (he : EX K te ((wipeX ρ [j]).set j (some (.d d))) μ (.d d') μ2) : TurnX K tYes te ρ j d μ μ2 es (es ++ [d']) := ⟨true, μ, tx_yes, fun _ => ⟨d', he, rfl⟩, fun z => by cases z⟩
theorem take_map {f : D → D} (h : items[i]? = some d) : (items.take (i + 1)).map f = (items.take i).map f ++ [f d] := by
  rw [List.take_add_one, h, List.map_append]; rfl
/-- a comprehension whose elements leave the cells as they are -/
theorem ex_mapT (f : D → D) (hsrc : EX K tl ρ μ (.d (.tuple items)) μ1) (he : ∀ d ∈ items, EX K te ((wipeX ρ [j]).set j (some (.d d))) μ1 (.d (f d)) μ1) (hz : items.length ≤ 50000 := by first | assumption | decide | omega) :
    EX K (tLc (iTup K tl) (gName j) tYes te [j]) ρ μ (.d (.list (items.map f))) μ1 := by
  have h := ex_lcT (K := K) (t := tYes) (te := te) (j := j) (fun _ => μ1) (fun i => (items.take i).map f) rfl hsrc (fun i d hd => by
    rw [take_map hd]
    exact turn_map (he d (List.mem_of_getElem? hd))) (fun i hi => by rw [List.length_map, List.length_take]; omega)
  rw [List.take_length] at h
  exact h
theorem ex_mapL (f : D → D) (hsrc : EX K tl ρ μ (.d (.list items)) μ1) (he : ∀ d ∈ items, EX K te ((wipeX ρ [j]).set j (some (.d d))) μ1 (.d (f d)) μ1) (hz : items.length ≤ 50000 := by first | assumption | decide | omega) :
    EX K (tLc (iList K tl) (gName j) tYes te [j]) ρ μ (.d (.list (items.map f))) μ1 := by
  have h := ex_lcL (K := K) (t := tYes) (te := te) (j := j) (fun _ => μ1) (fun i => (items.take i).map f) rfl hsrc (fun i d hd => by
    rw [take_map hd]
    exact turn_map (he d (List.mem_of_getElem? hd))) (fun i hi => by rw [List.length_map, List.length_take]; omega)
  rw [List.take_length] at h
  exact h
theorem turn_filt {t : TT} (p : D → Bool) (f : D → D) (h : items[i]? = some d) (ht : TX K t ((wipeX ρ [j]).set j (some (.d d))) μ (p d) μ) (he : p d = true → EX K te ((wipeX ρ [j]).set j (some (.d d))) μ (.d (f d)) μ) : TurnX K t te ρ j d μ μ (filtmap p f (items.take i)) (filtmap p f (items.take (i + 1))) := by
  rw [filtmap_take p f h]
  refine ⟨p d, μ, ht, fun c => ⟨f d, he c, by rw [if_pos c]⟩, fun c => ⟨rfl, by rw [if_neg (by rw [c]; exact Bool.false_ne_true), List.append_nil]⟩⟩
theorem ex_filtT {t : TT} (p : D → Bool) (f : D → D) (hsrc : EX K tl ρ μ (.d (.tuple items)) μ1) (ht : ∀ d ∈ items, TX K t ((wipeX ρ [j]).set j (some (.d d))) μ1 (p d) μ1) (he : ∀ d ∈ items, p d = true → EX K te ((wipeX ρ [j]).set j (some (.d d))) μ1 (.d (f d)) μ1) (hz : items.length ≤ 50000 := by first | assumption | decide | omega) :
    EX K (tLc (iTup K tl) (gName j) t te [j]) ρ μ (.d (.list ((items.filter p).map f))) μ1 := by
  have h := ex_lcT (K := K) (t := t) (te := te) (j := j) (fun _ => μ1) (fun i => filtmap p f (items.take i)) rfl hsrc (fun i d hd => turn_filt p f hd (ht d (List.mem_of_getElem? hd)) (he d (List.mem_of_getElem? hd))) (fun i hi => by have := filtmap_len p f (items.take i); rw [List.length_take] at this; omega)
  rw [List.take_length, filtmap_eq] at h
  exact h
theorem ex_filtL {t : TT} (p : D → Bool) (f : D → D) (hsrc : EX K tl ρ μ (.d (.list items)) μ1) (ht : ∀ d ∈ items, TX K t ((wipeX ρ [j]).set j (some (.d d))) μ1 (p d) μ1) (he : ∀ d ∈ items, p d = true → EX K te ((wipeX ρ [j]).set j (some (.d d))) μ1 (.d (f d)) μ1) (hz : items.length ≤ 50000 := by first | assumption | decide | omega) :
    EX K (tLc (iList K tl) (gName j) t te [j]) ρ μ (.d (.list ((items.filter p).map f))) μ1 := by
  have h := ex_lcL (K := K) (t := t) (te := te) (j := j) (fun _ => μ1) (fun i => filtmap p f (items.take i)) rfl hsrc (fun i d hd => turn_filt p f hd (ht d (List.mem_of_getElem? hd)) (he d (List.mem_of_getElem? hd))) (fun i hi => by have := filtmap_len p f (items.take i); rw [List.length_take] at this; omega)
  rw [List.take_length, filtmap_eq] at h
  exact h
end

/-! ### calls: the callee sees some of the caller's cells, by its own numbers -/
def posN (n : Nat) : List Nat → Option Nat
  | [] => none
  | x :: xs => if x = n then some 0 else (posN n xs).map (· + 1)
theorem posN_some {n j : Nat} : ∀ {ix : List Nat}, posN n ix = some j → ix[j]? = some n
  | [], h => by cases h
  | x :: xs, h => by
    unfold posN at h
    split at h
    · rename_i e
      cases h
      rw [e]; rfl
    · obtain ⟨k, h1, h2⟩ := Option.map_eq_some_iff.mp h
      subst h2
      have := posN_some h1
      simpa using this
theorem posN_none {n : Nat} : ∀ {ix : List Nat}, posN n ix = none → n ∉ ix
  | [], _ => by simp
  | x :: xs, h => by
    unfold posN at h
    split at h
    · cases h
    · rename_i e
      have h1 : posN n xs = none := by
        cases c : posN n xs with
        | none => rfl
        | some k => rw [c] at h; cases h
      have := posN_none h1
      intro hm
      rcases List.mem_cons.mp hm with z | z
      · exact e z.symm
      · exact this z
/-- the callee's number j in the caller's count (m cells) -/
def renN (ix : List Nat) (m j : Nat) : Nat := match ix[j]? with
  | some n => n
  | none => m + (j - ix.length)
def renS (ix : List Nat) (m : Nat) : SV → SV
  | .d x => .d x
  | .o j => .o (renN ix m j)
def renM (ix : List Nat) (m : Nat) : MO → MO
  | .lst ds => .lst ds
  | .ins C fs => .ins C (fs.map fun p => (p.1, renS ix m p.2))
  | .inv φ mono => .inv φ mono
/-- the caller's cells behind the call -/
def back (ix : List Nat) (μ μc : Mu) : Mu := ((List.range μ.length).map fun n => match posN n ix with
  | some j => renM ix μ.length (μc.getD j (.lst []))
  | none => μ.getD n (.lst [])) ++ (μc.drop ix.length).map (renM ix μ.length)
def SpM (K : PySem.W.Frag) (R : List SV → Mu → SV → Mu → Prop) : Sp := fun vs H Q _ => ∃ xs μ r μ' Hm α, Ex Hm H ∧ DxAll K Hm α vs xs ∧ Sto K H Hm α μ ∧ R xs μ r μ' ∧ ∀ v H2 Hm2 α2, Aft K α H Hm μ' α2 H2 Hm2 → Dx K Hm2 α2 v r → Q v H2
section
variable {K : PySem.W.Frag} {H Hm H2 Hm2 : Hp} {σ : L2.St} {ρ : Rx} {α αc αc2 : List Addr} {μ μ1 μc μc' : Mu} {ta : TA} {to : TE} {x r : SV} {xs : List SV} {ix : List Nat} {R : List SV → Mu → SV → Mu → Prop} {E : XK} {vs : List V}
theorem renD (h : ∀ (j : Nat) (a : Addr), αc[j]? = some a → α[renN ix n j]? = some a) {v : V} (hv : Dx K Hm αc v x) : Dx K Hm α v (renS ix n x) := by
  cases x with
  | d x => exact hv
  | o j =>
    obtain ⟨a, h1, h2⟩ := hv
    exact ⟨a, h j a h1, h2⟩
theorem renF (h : ∀ (j : Nat) (a : Addr), αc[j]? = some a → α[renN ix n j]? = some a) : ∀ {vs : List (Str × V)} {fs : List (Str × SV)}, FAll K Hm αc vs fs → FAll K Hm α vs (fs.map fun p => (p.1, renS ix n p.2))
  | _, _, .nil => .nil
  | _, _, .cons hd tl => .cons (renD h hd) (renF h tl)
theorem renO (h : ∀ (j : Nat) (a : Addr), αc[j]? = some a → α[renN ix n j]? = some a) {a : Addr} {m : MO} (hm : MOk K H Hm αc a m) : MOk K H Hm α a (renM ix n m) := by
  cases m with
  | lst ds => exact hm
  | inv φ mono => exact hm
  | ins C fs =>
    obtain ⟨dx, vs, h1, h2⟩ := hm
    exact ⟨dx, vs, h1, renF h h2⟩
/-- behind a callee -/
theorem aft_call (s : Ex Hm H) (S : Sto K H Hm α μ) (hix : ix.Nodup) (hlt : ∀ n ∈ ix, n < μ.length) (eα : αc = ix.map fun n => α.getD n 0) (A : Aft K αc H Hm μc' αc2 H2 Hm2) :
    ∃ α2, Aft K α H Hm (back ix μ μc') α2 H2 Hm2 ∧ ∀ (j : Nat) (a : Addr), αc2[j]? = some a → α2[renN ix μ.length j]? = some a := by
  have lc : αc.length = ix.length := by rw [eα, List.length_map]
  obtain ⟨nw, eN⟩ := A.pre
  have lenc : αc2.length = μc'.length := A.sto.len
  have atc : ∀ (j n : Nat), ix[j]? = some n → αc[j]? = α[n]? := fun j n h => by
    have hn := hlt n (List.mem_of_getElem? h)
    have hn' : n < α.length := by rw [S.len]; exact hn
    rw [eα, List.getElem?_map, h]
    show some (α.getD n 0) = α[n]?
    rw [List.getD_eq_getElem?_getD, List.getElem?_eq_getElem hn']; rfl
  have sub : ∀ a ∈ αc, a ∈ α := fun a ha => by
    rw [eα] at ha
    obtain ⟨n, hn, rfl⟩ := List.mem_map.mp ha
    have hn' : n < α.length := by rw [S.len]; exact hlt n hn
    rw [List.getD_eq_getElem?_getD, List.getElem?_eq_getElem hn']
    exact List.getElem_mem hn'
  have nd2 : (αc ++ nw).Nodup := by rw [eN]; exact A.sto.nd
  obtain ⟨_, ndw, disj⟩ := List.nodup_append.mp nd2
  have newN : ∀ a ∈ nw, H a = none := fun a ha => A.nw a (by rw [← eN]; exact List.mem_append_right _ ha) fun h => disj a h a ha rfl
  have ren : ∀ (j : Nat) (a : Addr), αc2[j]? = some a → (α ++ nw)[renN ix μ.length j]? = some a := fun j a h => by
    rw [← eN] at h
    unfold renN
    cases e : ix[j]? with
    | some n =>
      have hj : j < αc.length := by rw [lc]; exact (List.getElem?_eq_some_iff.mp e).1
      rw [List.getElem?_append_left hj, atc j n e] at h
      exact pre_get (List.prefix_append _ _) h
    | none =>
      have hj : ix.length ≤ j := List.getElem?_eq_none_iff.mp e
      rw [List.getElem?_append_right (by omega), lc] at h
      show (α ++ nw)[μ.length + (j - ix.length)]? = some a
      rw [List.getElem?_append_right (by rw [S.len]; omega), S.len, Nat.add_sub_cancel_left]
      exact h
  have lw : nw.length = μc'.length - ix.length := by
    have := congrArg List.length eN
    rw [List.length_append, lc, lenc] at this
    omega
  have lw2 : ix.length ≤ μc'.length := by
    have := congrArg List.length eN
    rw [List.length_append, lc, lenc] at this
    omega
  refine ⟨α ++ nw, ⟨List.prefix_append _ _, fun a ha n => ?_, ⟨fun a o n h => A.gr.ex a o (fun z => n (sub a z)) h, A.gr.th, A.gr.em, A.gr.sub, A.gr.own⟩, ⟨?_, ?_, fun a ha => ?_, fun n a m h1 h2 => ?_⟩⟩, ren⟩
  · rcases List.mem_append.mp ha with h | h
    · exact absurd h n
    · exact newN a h
  · unfold back
    rw [List.length_append, List.length_append, List.length_map, List.length_range, List.length_map, List.length_drop, S.len, lw]
  · rw [List.nodup_append]
    exact ⟨S.nd, ndw, fun x hx y hy e => by
      subst e
      obtain ⟨o, ho⟩ := S.has hx
      rw [newN x hy] at ho; cases ho⟩
  · rcases List.mem_append.mp ha with h | h
    · obtain ⟨o, ho⟩ := S.has h
      exact A.gr.own a o ho (S.hm a h)
    · exact A.sto.hm a (by rw [← eN]; exact List.mem_append_right _ h)
  · unfold back at h2
    by_cases hn : n < μ.length
    · rw [List.getElem?_append_left (by rw [S.len]; exact hn)] at h1
      rw [List.getElem?_append_left (by rw [List.length_map, List.length_range]; exact hn), List.getElem?_map, List.getElem?_range hn] at h2
      simp only [Option.map_some, Option.some.injEq] at h2
      cases e : posN n ix with
      | some j =>
        rw [e] at h2
        have hj := posN_some e
        have hjl := (List.getElem?_eq_some_iff.mp hj).1
        have hjm : j < μc'.length := by omega
        have ha : αc2[j]? = some a := by
          rw [← eN, List.getElem?_append_left (by rw [lc]; exact hjl), atc j n hj]; exact h1
        have hm : μc'[j]? = some (μc'.getD j (.lst [])) := by rw [List.getD_eq_getElem?_getD, List.getElem?_eq_getElem hjm]; rfl
        rw [← h2]
        exact renO ren (A.sto.ok j a _ ha hm)
      | none =>
        rw [e] at h2
        have hni := posN_none e
        have hm : μ[n]? = some (μ.getD n (.lst [])) := by rw [List.getD_eq_getElem?_getD, List.getElem?_eq_getElem hn]; rfl
        rw [← h2]
        refine (S.ok n a _ h1 hm).move (fun o ho => A.gr.ex a o (fun z => ?_) ho) A.gr.em (List.prefix_append _ _)
        rw [eα] at z
        obtain ⟨k, hk, e2⟩ := List.mem_map.mp z
        have hk' : k < α.length := by rw [S.len]; exact hlt k hk
        have hk2 : α[k]? = some a := by rw [← e2, List.getD_eq_getElem?_getD, List.getElem?_eq_getElem hk']; rfl
        exact hni (S.inj h1 hk2 ▸ hk)
    · have hn2 : μ.length ≤ n := Nat.le_of_not_lt hn
      rw [List.getElem?_append_right (by rw [S.len]; exact hn2), S.len] at h1
      rw [List.getElem?_append_right (by rw [List.length_map, List.length_range]; exact hn2), List.length_map, List.length_range, List.getElem?_map, List.getElem?_drop] at h2
      obtain ⟨m', h3, h4⟩ := Option.map_eq_some_iff.mp h2
      have ha : αc2[ix.length + (n - μ.length)]? = some a := by
        rw [← eN, List.getElem?_append_right (by rw [lc]; omega), lc, Nat.add_sub_cancel_left]; exact h1
      rw [← h4]
      exact renO ren (A.sto.ok _ a _ ha h3)
/-- the callee's view of the cells -/
def seen (ix : List Nat) (μ : Mu) (μc : Mu) : Prop := μc.length = ix.length ∧ ∀ (j : Nat) (m : MO), μc[j]? = some m → μ[renN ix μ.length j]? = some (renM ix μ.length m) ∧ cl ix.length μc = true
theorem seen_sto (S : Sto K H Hm α μ) (hix : ix.Nodup) (hlt : ∀ n ∈ ix, n < μ.length) (eα : αc = ix.map fun n => α.getD n 0) (h : seen ix μ μc) : Sto K H Hm αc μc := by
  have lc : αc.length = ix.length := by rw [eα, List.length_map]
  have atc : ∀ (j n : Nat), ix[j]? = some n → αc[j]? = α[n]? := fun j n h => by
    have hn := hlt n (List.mem_of_getElem? h)
    have hn' : n < α.length := by rw [S.len]; exact hn
    rw [eα, List.getElem?_map, h]
    show some (α.getD n 0) = α[n]?
    rw [List.getD_eq_getElem?_getD, List.getElem?_eq_getElem hn']; rfl
  have sub : ∀ a ∈ αc, a ∈ α := fun a ha => by
    rw [eα] at ha
    obtain ⟨n, hn, rfl⟩ := List.mem_map.mp ha
    have hn' : n < α.length := by rw [S.len]; exact hlt n hn
    rw [List.getD_eq_getElem?_getD, List.getElem?_eq_getElem hn']
    exact List.getElem_mem hn'
  refine ⟨lc.trans h.1.symm, ?_, fun a ha => S.hm a (sub a ha), fun j a m h1 h2 => ?_⟩
  · rw [eα]
    refine List.pairwise_map.mpr (hix.imp_of_mem fun {x y} hx hy hxy e => hxy ?_)
    have e1 : α[x]? = some (α.getD x 0) := by
      have hn' : x < α.length := by rw [S.len]; exact hlt x hx
      rw [List.getD_eq_getElem?_getD, List.getElem?_eq_getElem hn']; rfl
    have e2 : α[y]? = some (α.getD y 0) := by
      have hn' : y < α.length := by rw [S.len]; exact hlt y hy
      rw [List.getD_eq_getElem?_getD, List.getElem?_eq_getElem hn']; rfl
    exact S.inj e1 (e ▸ e2)
  · obtain ⟨k1, k2⟩ := h.2 j m h2
    have hj : j < ix.length := by rw [← lc]; exact (List.getElem?_eq_some_iff.mp h1).1
    obtain ⟨n, hn⟩ : ∃ n, ix[j]? = some n := ⟨_, List.getElem?_eq_getElem hj⟩
    have er : renN ix μ.length j = n := by unfold renN; rw [hn]
    rw [er] at k1
    have ha : α[n]? = some a := by rw [← atc j n hn]; exact h1
    have ok := S.ok n a _ ha k1
    cases m with
    | lst ds => exact ok
    | inv φ mono => exact ok
    | ins C fs =>
      obtain ⟨dx, vs, e1, e2⟩ := ok
      refine ⟨dx, vs, e1, ?_⟩
      have key : ∀ (vs : List (Str × V)) (fs : List (Str × SV)), (∀ f x, (f, x) ∈ fs → okV ix.length x) → FAll K Hm α vs (fs.map fun p => (p.1, renS ix μ.length p.2)) → FAll K Hm αc vs fs := by
        intro vs fs
        induction fs generalizing vs with
        | nil => intro _ h; cases h; exact .nil
        | cons p fs ih =>
          intro c h
          obtain ⟨f, x⟩ := p
          cases h with
          | cons h t =>
            refine .cons ?_ (ih _ (fun g y hy => c g y (List.mem_cons_of_mem _ hy)) t)
            cases x with
            | d x => exact h
            | o k =>
              have hk : k < ix.length := c f (.o k) List.mem_cons_self
              obtain ⟨b, h1, h2⟩ := h
              refine ⟨b, ?_, h2⟩
              have e3 : ix[k]? = some ix[k] := List.getElem?_eq_getElem hk
              rw [atc k _ e3]
              have er : renN ix μ.length k = ix[k] := by unfold renN; rw [e3]
              rw [er] at h1
              exact h1
      refine key vs fs (fun f x hx => ?_) e2
      cases x with
      | d x => exact True.intro
      | o k => exact cl_ok k2 j _ hj h2 C fs rfl f (.o k) hx k rfl
theorem seen_args {m : Nat} : ∀ {vs : List V} {xs : List SV}, DxAll K Hm α vs (xs.map (renS ix m)) → (∀ x ∈ xs, okV ix.length x) → DxAll K Hm (ix.map fun n => α.getD n 0) vs xs
  | _, [], h, _ => by cases h; exact .nil
  | _, x :: xs, h, c => by
    cases h with
    | cons h t =>
      refine .cons ?_ (seen_args t fun y hy => c y (List.mem_cons_of_mem _ hy))
      have ox := c x List.mem_cons_self
      cases x with
      | d x => exact h
      | o k =>
        have hk : k < ix.length := ox
        obtain ⟨b, h1, h2⟩ := h
        refine ⟨b, ?_, h2⟩
        have e3 : ix[k]? = some ix[k] := List.getElem?_eq_getElem hk
        have er : renN ix m k = ix[k] := by unfold renN; rw [e3]
        rw [er] at h1
        rw [List.getElem?_map, e3]
        show some (α.getD ix[k] 0) = some b
        rw [List.getD_eq_getElem?_getD, h1]; rfl
/-- f(..) over cells -/
theorem ex_callM (ix : List Nat) (ha : EXs K ta ρ μ (xs.map (renS ix μ1.length)) μ1) (hix : ix.Nodup) (hlt : ∀ n ∈ ix, n < μ1.length) (hs : seen ix μ1 μc) (hx : ∀ x ∈ xs, okV ix.length x) (hr : R xs μc r μc') : EX K (tCall (SpM K R) [] E ta) ρ μ (renS ix μ1.length r) (back ix μ1 μc') := fun σ H Hm α s l hsx S Q q =>
  ha σ H Hm α s l hsx S _ fun vs H1 Hm1 α1 A1 h1 => by
    show SpM K R (vs ++ []) H1 Q E
    rw [List.append_nil]
    refine ⟨xs, μc, r, μc', Hm1, ix.map fun n => α1.getD n 0, A1.gr.sub, seen_args h1 hx, seen_sto A1.sto hix hlt rfl hs, hr, fun v H2 Hm2 αc2 A hv => ?_⟩
    obtain ⟨α2, B, ren⟩ := aft_call A1.gr.sub A1.sto hix hlt rfl A
    exact q v H2 Hm2 α2 (A1.trans B) (renD ren hv)
/-- o.m(..) over cells -/
theorem ex_methM {C : Addr} {fs : List (Str × SV)} {m : Str} {n : Nat} {μ0 : Mu} (ix : List Nat) (ho : EX K to ρ μ0 (.o n) μ) (hm : μ[n]? = some (.ins C fs)) (hf : fs.lookup m = none) (hn : renS ix μ1.length x = .o n) (ha : EXs K ta ρ μ (xs.map (renS ix μ1.length)) μ1) (hix : ix.Nodup) (hlt : ∀ n ∈ ix, n < μ1.length) (hs : seen ix μ1 μc) (hx : ∀ y ∈ x :: xs, okV ix.length y) (hr : R (x :: xs) μc r μc') : EX K (tMeth C m (SpM K R) [] E to ta) ρ μ0 (renS ix μ1.length r) (back ix μ1 μc') := fun σ H Hm α s l hsx S Q q =>
  ho σ H Hm α s l hsx S _ fun vo H0 Hm0 α0 A0 h0 => by
    have h0' := h0
    obtain ⟨a, ha0, rfl⟩ := h0
    obtain ⟨dx, ws, e1, e2⟩ := A0.sto.ok n a _ ha0 hm
    refine ⟨a, dx, ws, rfl, e1, e2.lookN hf, ?_⟩
    refine ha σ H0 Hm0 α0 A0.gr.sub l (hsx.aft A0) A0.sto _ fun vs H1 Hm1 α1 A1 h1 => ?_
    show SpM K R (.ref a :: (vs ++ [])) H1 Q E
    rw [List.append_nil]
    have hself : Dx K Hm1 α1 (.ref a) (renS ix μ1.length x) := by rw [hn]; exact h0'.mono A1.gr.em A1.pre
    refine ⟨x :: xs, μc, r, μc', Hm1, ix.map fun n => α1.getD n 0, A1.gr.sub, seen_args (xs := x :: xs) (.cons hself h1) hx, seen_sto A1.sto hix hlt rfl hs, hr, fun v H2 Hm2 αc2 A hv => ?_⟩
    obtain ⟨α2, B, ren⟩ := aft_call A1.gr.sub A1.sto hix hlt rfl A
    exact q v H2 Hm2 α2 ((A0.trans A1).trans B) (renD ren hv)
/-- C(..): a new instance is the last cell; then __init__ -/
theorem ex_makeM {C : Addr} (ix : List Nat) (ha : EXs K ta ρ μ (xs.map (renS ix (μ1 ++ [MO.ins C []]).length)) μ1) (hn : renS ix (μ1 ++ [MO.ins C []]).length x = .o μ1.length) (hix : ix.Nodup) (hlt : ∀ n ∈ ix, n < (μ1 ++ [MO.ins C []]).length) (hs : seen ix (μ1 ++ [MO.ins C []]) μc) (hx : ∀ y ∈ x :: xs, okV ix.length y)
    (hr : R (x :: xs) μc (.d .none) μc') : EX K (tMake C (SpM K R) [] E ta) ρ μ (.o μ1.length) (back ix (μ1 ++ [MO.ins C []]) μc') := fun σ H Hm α s l hsx S Q q =>
  ha σ H Hm α s l hsx S _ fun vs H1 Hm1 α1 A1 h1 => fun a dx na ndx ne => by
    show SpM K R (.ref a :: (vs ++ [])) _ _ E
    rw [List.append_nil]
    have g1 : Gr H1 Hm1 (upd H1 dx (.own a)) Hm1 := Gr.priv A1.gr.sub ndx
    have na' : upd H1 dx (.own a) a = none := by rw [upd_ne (Ne.symm ne)]; exact na
    have A2 := A1.trans (Aft.ofGr A1.sto g1)
    have A3 := A2.trans (Aft.new A2.gr.sub A2.sto (p := a) (o := .ins C dx []) (m := .ins C []) na' ⟨dx, [], upd_same, .nil⟩)
    have hself : Dx K Hm1 (α1 ++ [a]) (.ref a) (renS ix (μ1 ++ [MO.ins C []]).length x) := by
      rw [hn]
      exact ⟨a, by rw [← A1.sto.len, List.getElem?_append_right (Nat.le_refl _), Nat.sub_self]; rfl, rfl⟩
    have h1' := DxAll.mono h1 (Ex.refl _) (List.prefix_append α1 [a])
    refine ⟨x :: xs, μc, .d .none, μc', Hm1, ix.map fun n => (α1 ++ [a]).getD n 0, A3.gr.sub, seen_args (xs := x :: xs) (.cons hself h1') hx, seen_sto A3.sto hix hlt rfl hs, hr, fun v H2 Hm2 αc2 A hv => ⟨dp_none hv, ?_⟩⟩
    obtain ⟨α2, B, ren⟩ := aft_call A3.gr.sub A3.sto hix hlt rfl A
    refine q _ H2 Hm2 α2 (A3.trans B) ⟨a, pre_get B.pre ?_, rfl⟩
    rw [← A1.sto.len, List.getElem?_append_right (Nat.le_refl _), Nat.sub_self]; rfl
end

/-! ### defs -/
def startX (N : List Str) (xs : List SV) : Rx := xs.map some ++ List.replicate (N.length - xs.length) none
theorem startX_len {N : List Str} {xs : List SV} (h : xs.length ≤ N.length) : (startX N xs).length = N.length := by
  unfold startX
  rw [List.length_append, List.length_map, List.length_replicate]; omega
theorem start_sx {K : PySem.W.Frag} {Hm : Hp} {α : List Addr} {N : List Str} : ∀ {vs : List V} {xs : List SV}, DxAll K Hm α vs xs → ∀ m, Sx K Hm α (vs.map some ++ List.replicate m none) (xs.map some ++ List.replicate m none)
  | _, _, .nil, m => fun i x hi => by
    have := List.mem_of_getElem? hi
    simp only [List.map_nil, List.nil_append, List.mem_replicate] at this
    cases this.2
  | _, _, .cons h t, m => fun i x hi => by
    cases i with
    | zero =>
      cases hi
      exact ⟨_, rfl, h⟩
    | succ i => exact start_sx (N := N) t m i x (by simpa using hi)
theorem start_of {K : PySem.W.Frag} {Hm : Hp} {α : List Addr} {N : List Str} {vs : List V} {xs : List SV} (h : DxAll K Hm α vs xs) : Sx K Hm α (L2.start N vs) (startX N xs) := by
  unfold startX L2.start
  rw [h.len]
  exact start_sx (N := N) h _
/-- a body hands back r, or runs to its end -/
def Ends2 (K : PySem.W.Frag) (t : TS) (ρ : Rx) (μ : Mu) (r : SV) (μ' : Mu) : Prop := XM K t ρ μ (.rt r μ') ∨ (r = .d .none ∧ ∃ ρ', XM K t ρ μ (.nx ρ' μ'))
section
variable {P : Program} {w : World} {K : PySem.W.Frag} {mg : Str → Option Value} {base : Heap} {x : Str} {st : Stmt} {f : Addr} {fd : FuncData} {N ps : List Str} {k : Nat}
theorem fn_ofM {q : Str} {R : List SV → Mu → SV → Mu → Prop} (F : Fun K x q st f fd) (S : FnScope N ps (defScope st)) (hN : ps.length ≤ N.length)
    (len : ∀ xs μ r μ', R xs μ r μ' → xs.length = ps.length)
    (hbody : ∀ (cdv : Value) (A : Around) (outer : List Env) (s : Shared) (H : Hp) (E : XK), Room k (A.deeper (envOfC q (defScope st) s.heap.objs.size f cdv)) →
      ∃ t, PSs (cxOf CX0 P w K mg base N q (defScope st) f cdv A outer s H E).nox (defBody st) t ∧ ∀ xs μ r μ', R xs μ r μ' → Ends2 K t (startX N xs) μ r μ') : FnOk P w K mg base CX0 (k + 1) f fd ps (SpM K R) := by
  refine F.ok S (fun vs H Q E h => ?_) (fun cdv A outer s H vs Q E hr h => ?_)
  · obtain ⟨xs, μ, r, μ', Hm, α, _, hd, _, hR, _⟩ := h
    rw [hd.len, len xs μ r μ' hR]
  · obtain ⟨t, h1, h2⟩ := hbody cdv A outer s H E hr
    refine ⟨t, h1, ?_⟩
    obtain ⟨xs, μ, r, μ', Hm, α, s1, hd, hS, hR, hq⟩ := h
    have hl := len xs μ r μ' hR
    have S0 : SM K α H Hm H Hm (L2.start N vs) (startX N xs) α μ := by
      refine ⟨GrS.refl s1, ?_, start_of hd, hS, fun a ha => .inl ha⟩
      rw [startX_len (by omega)]
      have := hd.len
      unfold L2.start
      rw [List.length_append, List.length_map, List.length_replicate]
      omega
    have aft : ∀ {H' Hm' α'}, α <+: α' → GrS α H Hm H' Hm' → Sto K H' Hm' α' μ' → (∀ a ∈ α', a ∈ α ∨ H a = none) → Aft K α H Hm μ' α' H' Hm' := fun p g S fr => ⟨p, fun a ha n => (fr a ha).resolve_left n, g, S⟩
    rcases h2 xs μ r μ' hR with h3 | ⟨rfl, ρ', h3⟩
    · exact h3 α H Hm _ (L2.start N vs) H Hm α S0 fun v H' Hm' α' p g S fr hv => hq v H' Hm' α' (aft p g S fr) hv
    · exact h3 α H Hm _ (L2.start N vs) H Hm α S0 fun σ' H' Hm' α' e p S => hq .non H' Hm' α' (aft p S.gr S.sto S.fr) Dp.non
theorem has_ofM {R : List SV → Mu → SV → Mu → Prop} (F : Fun K x x st f fd) (b : Binds K fd ps []) (hm : mg x = some (.ref f)) (S : FnScope N ps (defScope st)) (hN : ps.length ≤ N.length)
    (len : ∀ xs μ r μ', R xs μ r μ' → xs.length = ps.length)
    (hbody : ∀ (cdv : Value) (A : Around) (outer : List Env) (s : Shared) (H : Hp) (E : XK), Room k (A.deeper (envOfC x (defScope st) s.heap.objs.size f cdv)) →
      ∃ t, PSs (cxOf CX0 P w K mg base N x (defScope st) f cdv A outer s H E).nox (defBody st) t ∧ ∀ xs μ r μ', R xs μ r μ' → Ends2 K t (startX N xs) μ r μ') : Has P w K mg base (k + 1) x (SpM K R) :=
  ⟨f, fd, ps, fn_ofM F S hN len hbody, hm, F.kp, b⟩
/-- a promise without cells, of a body with cells of its own -/
theorem fn_ofP {q : Str} {R : List D → D → Prop} (F : Fun K x q st f fd) (S : FnScope N ps (defScope st)) (hN : ps.length ≤ N.length)
    (len : ∀ ds r, R ds r → ds.length = ps.length)
    (hbody : ∀ (cdv : Value) (A : Around) (outer : List Env) (s : Shared) (H : Hp) (E : XK), Room k (A.deeper (envOfC q (defScope st) s.heap.objs.size f cdv)) →
      ∃ t, PSs (cxOf CX0 P w K mg base N q (defScope st) f cdv A outer s H E).nox (defBody st) t ∧ ∀ ds r, R ds r → ∃ μ', XM K t (startX N (ds.map .d)) [] (.rt (.d r) μ')) : FnOk P w K mg base CX0 (k + 1) f fd ps (SpR K R) := by
  refine F.ok S (fun vs H Q E h => ?_) (fun cdv A outer s H vs Q E hr h => ?_)
  · obtain ⟨ds, r, Hm, _, hd, hR, _⟩ := h
    rw [hd.len, len ds r hR]
  · obtain ⟨t, h1, h2⟩ := hbody cdv A outer s H E hr
    refine ⟨t, h1, ?_⟩
    obtain ⟨ds, r, Hm, s1, hd, hR, hq⟩ := h
    have hl := len ds r hR
    obtain ⟨μ', h3⟩ := h2 ds r hR
    have S0 : SM K [] H Hm H Hm (L2.start N vs) (startX N (ds.map .d)) [] [] := by
      refine ⟨GrS.refl s1, ?_, start_of (DxAll.of hd), Sto.empty, fun a ha => by cases ha⟩
      rw [startX_len (by rw [List.length_map]; omega)]
      have := hd.len
      unfold L2.start
      rw [List.length_append, List.length_map, List.length_replicate]
      omega
    exact h3 [] H Hm _ (L2.start N vs) H Hm [] S0 fun v H' Hm' α' p g S fr hv => hq v H' Hm' ⟨fun a o h => g.ex a o (by simp) h, g.em, g.sub, g.own⟩ hv
theorem has_ofP {R : List D → D → Prop} (F : Fun K x x st f fd) (b : Binds K fd ps []) (hm : mg x = some (.ref f)) (S : FnScope N ps (defScope st)) (hN : ps.length ≤ N.length)
    (len : ∀ ds r, R ds r → ds.length = ps.length)
    (hbody : ∀ (cdv : Value) (A : Around) (outer : List Env) (s : Shared) (H : Hp) (E : XK), Room k (A.deeper (envOfC x (defScope st) s.heap.objs.size f cdv)) →
      ∃ t, PSs (cxOf CX0 P w K mg base N x (defScope st) f cdv A outer s H E).nox (defBody st) t ∧ ∀ ds r, R ds r → ∃ μ', XM K t (startX N (ds.map .d)) [] (.rt (.d r) μ')) : Has P w K mg base (k + 1) x (SpR K R) :=
  ⟨f, fd, ps, fn_ofP F S hN len hbody, hm, F.kp, b⟩
end
/-- a method -/
structure HasM (P : Program) (w : World) (K : PySem.W.Frag) (mg : Str → Option Value) (base : Heap) (k : Nat) (C : Addr) (m : Str) (sp : Sp) : Prop where
  ex : ∃ f fd ps, FnOk P w K mg base CX0 k f fd ps sp ∧ Meth K C m f ∧ Binds K fd ps []
theorem HasM.mono {P : Program} {w : World} {K : PySem.W.Frag} {mg : Str → Option Value} {base : Heap} {j k : Nat} {C : Addr} {m : Str} {sp : Sp} (h : HasM P w K mg base j C m sp) (hk : j ≤ k) : HasM P w K mg base k C m sp :=
  let ⟨f, fd, ps, F, a, b⟩ := h.ex
  ⟨f, fd, ps, F.mono hk, a, b⟩
section
variable {X : Cx} {k j : Nat} {C : Addr} {m : Str} {sp : Sp} {e o : Expr} {es : List Expr} {p pos apos : Pos} {t : TA} {to : TE}
theorem pe_hm {pl : Sem Bool} (c : HasM X.prog X.w X.K X.mg X.base k C m sp) (cl : Cls X.K C) (hr : Room j X.A) (hk : k ≤ j) (ho : PE X o to) (ha : PA X (e :: es) t)
    (hst : starEach (e :: es) X.env = (false, eval e X.env) :: starEach es X.env := by rfl) (hpl : (backTo pos (starEach es X.env)).any (·.1) = false := by rfl)
    (ht : eval (.Call (.Attribute o m apos) (e :: es) [] pos) X.env = (do
      let ov ← eval o X.env
      standAt apos.atName
      let (f, first) ← holding [ov] (getMethod ov m pl)
      callWith pos f first (backTo pos (starEach (e :: es) X.env)) (backToKw pos (keywordEach [] X.env))) := by rfl) :
    PE X (.Call (.Attribute o m apos) (e :: es) [] pos) (tMeth C m sp [] E0 to t) := by
  obtain ⟨f, fd, ps, F, hm, b⟩ := c.ex
  exact pe_meth (pl := pl) ho cl hm F (hr.mono hk) b .nil pass0 ha (hst := hst) (hpl := hpl) (ht := ht)
theorem pe_hm0 {pl : Sem Bool} (c : HasM X.prog X.w X.K X.mg X.base k C m sp) (cl : Cls X.K C) (hr : Room j X.A) (hk : k ≤ j) (ho : PE X o to)
    (ht : eval (.Call (.Attribute o m apos) [] [] pos) X.env = (do
      let ov ← eval o X.env
      standAt apos.atName
      let (f, first) ← holding [ov] (getMethod ov m pl)
      callWith pos f first (backTo pos (starEach [] X.env)) (backToKw pos (keywordEach [] X.env))) := by rfl) :
    PE X (.Call (.Attribute o m apos) [] [] pos) (tMeth C m sp [] E0 to tNil) := by
  obtain ⟨f, fd, ps, F, hm, b⟩ := c.ex
  exact pe_meth0 (pl := pl) ho cl hm F (hr.mono hk) b .nil pass0 (ht := ht)
end
end LM

set_option Elab.async false
set_option linter.all false
set_option maxRecDepth 100000
set_option maxHeartbeats 1000000
/-! LmE: for i, x in enumerate(t), t a tuple. -/
namespace LM
open PySem PySem.Spec PyProof.Rows L2 Evl
abbrev tupIt (l : Addr) : Obj := { cls := .type "tuple_iterator", data := .fields #[.ref l, .int 0 0] }
abbrev enumOf (a : Addr) : Obj := { cls := .type "enumerate", data := .fields #[.none, .bool false, .ref a, rawInt 0, .none, .none] }
theorem enum_tup_new (l : Addr) (its : Array Value) :
    Meets (Builtin.«enumerate.__new__» ⟨[.type "enumerate", .ref l], []⟩) (fun _ R s => s.heap.IsTuple l its ∧ R (.ok (.ret (.ref (s.heap.push (tupIt l)).objs.size))) { s with heap := (s.heap.push (tupIt l)).push (enumOf s.heap.objs.size) }) :=
  .of_wp fun prog w A R s k => by
    obtain ⟨hp, g, dr, tk, os⟩ := s
    obtain ⟨ht, k⟩ := k
    have f1 := sub_enumerate
    have f2 : Heap.IsTuple (Shared.heap ⟨hp, g, dr, tk, os⟩) l its := ht
    wp_walk using (wpAny_pyIter_tuple f2)
    refine wpAny_stack_any fun z => wpAny_pure ?_
    split
    · rename_i c _ _ _ _ _
      cases (c == Value.type "enumerate")
      · wp_walk using (wpAny_pyIter_tuple f2)
        exact ⟨_, rfl, k⟩
      · wp_walk using (wpAny_pyIter_tuple f2)
        exact ⟨_, rfl, k⟩
    · wp_walk using (wpAny_pyIter_tuple f2)
      exact ⟨_, rfl, k⟩
section
variable {prog : Program} {w : World} {A : Around} {E : Value → Shared → Prop} {s : Shared}
theorem call_enum_tup {l : Addr} {its : Array Value} {Q : Value → Shared → Prop} (ht : s.heap.IsTuple l its)
    (q : ∀ h2, IsEnum h2 (s.heap.objs.size + 1) s.heap.objs.size 0 .none → h2.IsTupleIter s.heap.objs.size l 0 → h2.objs.size = s.heap.objs.size + 2 → (∀ b o, s.heap.get? b = some o → h2.get? b = some o) → Q (.ref (s.heap.objs.size + 1)) { s with heap := h2 }) :
    wpAny (model prog w) A (call (.type "enumerate") [.ref l]) Q E s := by
  refine callType_new F.called_enumerate (by decide) (F.typeCall_enumerate_1 _) (F.newCall_enumerate_1 _) (fun ob => F.args_object_init_2 ob _) F.entry_enumerate_new (enum_tup_new l its) ⟨ht, ?_⟩
  have z1 : (s.heap.push (tupIt l)).objs.size = s.heap.objs.size + 1 := Heap.size_push ..
  show _ ∧ _
  rw [z1]
  have z2 : IsEnum ((s.heap.push (tupIt l)).push (enumOf s.heap.objs.size)) (s.heap.objs.size + 1) s.heap.objs.size 0 .none := by
    have := Heap.get?_push_size (s.heap.push (tupIt l)) (o := enumOf s.heap.objs.size) rfl
    rw [z1] at this
    exact this
  refine ⟨⟨_, z2, rfl⟩, q _ z2 ⟨_, Heap.get?_push_of_some _ (Heap.get?_push_size _ rfl), rfl, rfl⟩ ?_ fun b o e => ?_⟩
  · rw [Heap.size_push, z1]
  · exact Heap.get?_push_of_some _ (Heap.get?_push_of_some _ e)
end
/-- the tuple at a, its items in new pairs with their places -/
def IteT (K : PySem.W.Frag) (a : Addr) : It :=
  ⟨fun i H => ∃ (xs : List V) (x : V), SqT K H a xs ∧ xs[i]? = some x, fun i H v H2 => ∃ T x, v = .ref T ∧ H T = none ∧ H2 = upd H T (.tup [.int (i : Nat), x]) ∧ ∀ xs, SqT K H a xs → xs[i]? = some x, fun i H => ∃ xs : List V, SqT K H a xs ∧ xs.length ≤ i⟩
theorem turn_enumT {P : Program} {w : World} {K : PySem.W.Frag} {elts : List Expr} {kk : Nat} {tpos : Pos} (a e it : Addr) :
    Turn P w K (.Tuple elts kk tpos) (IteT K a) [e, it] e (fun i h => (∃ u, IsEnum h e it ((i : Nat) : Int) u) ∧ h.IsTupleIter it a i ∧ e ≠ it) where
  mem := by simp
  obj := fun i h st b hb => by
    obtain ⟨⟨u, k1⟩, ⟨o, k2, k3, k4⟩, _⟩ := st
    rcases List.mem_cons.mp hb with z | z
    · rw [z]; exact ⟨_, k1, fun v q => nomatch q⟩
    · rw [List.mem_singleton.mp z]; exact ⟨o, k2, fun v q => by rw [k4] at q; cases q⟩
  keep := fun i h h2 st k => by
    obtain ⟨⟨u, k1⟩, k2, ne⟩ := st
    exact ⟨⟨u, k e (by simp) _ k1⟩, k2.at fun o q => k it (by simp) o q, ne⟩
  item := by
    intro X hP hw hK hc i pins s σ H E I hf st hg
    subst hP hw hK
    obtain ⟨⟨old, he⟩, hit, hne⟩ := st
    obtain ⟨xs, x, hq, hx⟩ := hg
    obtain ⟨its, rv, pt, hz⟩ := I.tuple hq
    have ht : s.heap.IsTuple a its.toArray := pt
    obtain ⟨u, hu, ru⟩ := rv.get hx
    have el : e < s.heap.objs.size := Heap.lt_size he
    have il : it < s.heap.objs.size := by obtain ⟨_, q, _⟩ := hit; exact Heap.lt_size q
    have al : a ≠ it := by
      intro z
      subst z
      obtain ⟨o1, q1, q2, _⟩ := hit
      obtain ⟨o2, q3, q4, _⟩ := ht
      rw [q1] at q3
      cases q3
      rw [q2] at q4
      exact absurd q4 (by decide)
    have ae : e ≠ a := by
      intro z
      subst z
      obtain ⟨o2, q3, q4, _⟩ := ht
      rw [he] at q3
      cases q3
      exact absurd (show Value.type "enumerate" = Value.type "tuple" from q4) (by decide)
    refine wpAny_pyNext_enum_itemD (Draws.tuple (prog := X.prog) (w := X.w) (A := X.A.in1) (show X.A.in1.handled = none from I.ok.hd hc) it a al its.toArray) he ⟨hit, ht⟩ (by have := rv.length; have := (List.getElem?_eq_some_iff.mp hx).1; rw [List.size_toArray]; omega) hne (by simp [hne, ae]) fun y h2 tk hy ho st2 hT hsz hk => ?_
    have ey : y = u := by
      have e1 : its[i]? = some y := by simpa using hy
      rw [hu] at e1
      exact (Option.some.inj e1).symm
    subst ey
    refine ⟨_, rfl, wpAny_letOwnedTupleGo_enum (s := { s with heap := h2, toks := tk + 1 }) ho fun h3 he3 sb => ?_⟩
    have hT3 : h3.get? s.heap.objs.size = some { cls := .type "tuple", data := .seq #[.int i tk, y] } := (sb.2 _ (Nat.ne_of_gt el)).trans hT
    have nw : ObjOk X.prog X.w (upd H s.heap.objs.size (.tup [.int (i : Nat), x])) h3 s.heap.objs.size (.tup [.int (i : Nat), x]) :=
      ⟨by show 2 ≤ sizeLine; decide, [.int i tk, y], .cons ⟨_, rfl⟩ (.cons ru .nil), ⟨_, hT3, rfl, _, rfl⟩⟩
    have I2 : Inv X pins σ (upd H s.heap.objs.size (.tup [.int (i : Nat), x])) { s with heap := h3, toks := tk + 1 } :=
      I.turnedNew (ch := [e, it]) (fun b ob nb q => (sb.2 b (fun z => nb (by simp [z]))).trans (hk b ob (fun z => nb (by simp [z])) (fun z => nb (by simp [z])) q)) hf (Nat.le_refl _) nw
    refine ⟨.ref s.heap.objs.size, _, I2, rfl, ⟨_, x, rfl, I.hok.fresh (Nat.le_refl _), rfl, fun ys hy => by rw [I.tuple_inj hy hq]; exact hx⟩, ⟨⟨y, ?_⟩, st2.1.at fun o q => (sb.2 it (Ne.symm hne)).trans q, hne⟩, fun b hb => ?_⟩
    · rw [show ((i + 1 : Nat) : Int) = (i : Int) + 1 by omega]
      exact he3
    · have bl : b < s.heap.objs.size := by
        rcases List.mem_cons.mp hb with z | z
        · rw [z]; exact el
        · rw [List.mem_singleton.mp z]; exact il
      rw [upd_ne (Nat.ne_of_lt bl)]
      exact (hf b hb).1
  done := by
    intro X hP hw hK hc i pins s σ H E I hf st hg
    subst hP hw hK
    obtain ⟨⟨old, he⟩, hit, hne⟩ := st
    obtain ⟨xs, hq, hx⟩ := hg
    obtain ⟨its, rv, pt, hz⟩ := I.tuple hq
    have ht : s.heap.IsTuple a its.toArray := pt
    obtain ⟨f0, f1, f2, f3, f4, f5⟩ := hf it (by simp)
    have al : a ≠ it := by
      intro z
      subst z
      obtain ⟨o1, q1, q2, _⟩ := hit
      obtain ⟨o2, q3, q4, _⟩ := ht
      rw [q1] at q3
      cases q3
      rw [q2] at q4
      exact absurd q4 (by decide)
    have hl := rv.length
    unfold pyNext
    refine wpAny_bind (wpAny_attempt (wpAny_callSpecial?_slot (name := Str.ofString "__next__") ⟨_, he, rfl⟩ F.slot_enumerate_next (wpAny_call_entry F.slot_enumerate_next ⟨_, he, rfl⟩ F.entry_enumerate_next ?_ (F.args_enumerate_next_1 _))))
    show wpAny _ _ (field (.ref e) 2 >>= _) _ _ s
    refine wpAny_bind (wpAny_field he rfl (x := .ref it) rfl (wpAny_bind ?_))
    refine wpAny_nextOf_tuple_end (I.ok.hd hc) hit ht (by simp; omega) fun h2 x eb ⟨o, ho, hcl⟩ => ?_
    refine wpAny_bind (wpAny_isInstance (T := "StopIteration") (b := true) ⟨o, ho, hcl⟩ isSubtype_stop (wpAny_pure ?_))
    exact ⟨rfl, I.turned (t' := s.toks) (fun b ob nb q => eb b ob nb q) f0 f1 f3 f4 f5⟩
  self := fun A i s Q E st q => by
    obtain ⟨⟨u, k1⟩, _⟩ := st
    exact wpAny_pyIter_enum k1 q
def iEnumT (K : PySem.W.Frag) (ta : TA) : TI := fun σ H R => ta σ H fun vs H1 => ∃ a xs, vs = [.ref a] ∧ SqT K H1 a xs ∧ R (IteT K a) H1
theorem pi_enumT (K : PySem.W.Frag) {X : Cx} (hK : X.K = K) {e : Expr} {ta : TA} {p pos tpos : Pos} {elts : List Expr} {kk : Nat} (hg : Gl X "enumerate") (hm : X.mg "enumerate" = none) (ha : PA X [e] ta) (hs : starEach [e] X.env = [(false, eval e X.env)] := by rfl) :
    PI X (.Tuple elts kk tpos) (.Call (.Name "enumerate" p) [e] [] pos) (iEnumT K ta) := by
  subst hK
  refine ⟨fun pins s σ H R I h => ?_⟩
  refine Call_ (ld_blt I hg hm boot_enumerate (PyProof.Rows.callWith_type1 (thn (ha.run pos pins s σ H _ I h) fun us s1 hk => ?_) hs rfl))
  obtain ⟨vs, H1, I1, r1, a, xs, ev, hq, q⟩ := hk
  subst ev
  cases r1 with
  | cons r rr =>
    cases rr
    cases r
    obtain ⟨its, rv, pt, hz⟩ := I1.tuple hq
    refine call_enum_tup (its := its.toArray) pt fun h2 k1 k2 k3 k4 => wpAny_pyIter_enum k1 ?_
    have I2 : Inv X pins σ H1 { s1 with heap := h2 } := I1.kept (t' := s1.toks) k4
    refine ⟨s1.heap.objs.size + 1, [s1.heap.objs.size + 1, s1.heap.objs.size], _, _, H1, rfl, I2, turn_enumT a _ s1.heap.objs.size, ⟨⟨.none, k1⟩, k2, Nat.succ_ne_self _⟩, fun b hb => ?_, q⟩
    have le : s1.heap.objs.size ≤ b := by
      rcases List.mem_cons.mp hb with z | z
      · rw [z]; exact Nat.le_add_right _ _
      · rw [List.mem_singleton.mp z]; exact Nat.le_refl _
    exact I1.fpOk le (I1.hok.fresh le)

/-! ### loops over enumerate -/
abbrev gPr (K : PySem.W.Frag) (i j : Nat) : TG := gTup K 2 (gCons (gName i) (gCons (gName j) gNil))
def prS (ρ : Rx) (i j k : Nat) (d : D) : Rx := (ρ.set i (some (.d (.int (k : Int))))).set j (some (.d d))
def GoE (K : PySem.W.Frag) (tu : TS) (i j : Nat) (items : List D) (ρs : Nat → Rx) (μs : Nat → Mu) (o : OutX) : Prop :=
  ∃ m, m ≤ items.length ∧ (∀ k d, k < m → items[k]? = some d → XM K tu (prS (ρs k) i j k d) (μs k) (.nx (ρs (k + 1)) (μs (k + 1)))) ∧
    ((m = items.length ∧ o = .nx (ρs m) (μs m)) ∨ ∃ d, items[m]? = some d ∧ ((∃ r μ', o = .rt r μ' ∧ XM K tu (prS (ρs m) i j m d) (μs m) (.rt r μ')) ∨ ∃ ρ' μ', o = .nx ρ' μ' ∧ XM K tu (prS (ρs m) i j m d) (μs m) (.bk ρ' μ')))
section
variable {K : PySem.W.Frag} {L0 : List Addr} {H0 Hm0 H Hm H2 Hm2 Hb Hb2 : Hp} {σ : L2.St} {ρ ρ1 ρ2 : Rx} {α α2 αb : List Addr} {μ μ1 μ2 μ3 : Mu} {E : Ends} {o : OutX} {tu : TS} {ta : TA} {d : D} {items : List D} {i j k n m : Nat} {ρs : Nat → Rx} {μs : Nat → Mu} {v : V} {T : Addr}
theorem goe_turn
    (h1 : ∀ k d, k < m → items[k]? = some d → XM K tu (prS (ρs k) i j k d) (μs k) (.nx (ρs (k + 1)) (μs (k + 1))))
    (h2 : (m = items.length ∧ o = .nx (ρs m) (μs m)) ∨ ∃ d, items[m]? = some d ∧ ((∃ r μ', o = .rt r μ' ∧ XM K tu (prS (ρs m) i j m d) (μs m) (.rt r μ')) ∨ ∃ ρ' μ', o = .nx ρ' μ' ∧ XM K tu (prS (ρs m) i j m d) (μs m) (.bk ρ' μ')))
    (f : FnX K L0 H0 Hm0 Hb αb E o) (hi : items[k]? = some d) (hv : Dp K Hb v d) (c : GoXI K L0 H0 Hm0 Hb αb ρs μs m k σ H) (hT : H T = none) :
    gPr K i j (.ref T) σ (upd H T (.tup [.int (k : Nat), v])) fun σ2 H2 => tu { E with nx := GoXI K L0 H0 Hm0 Hb αb ρs μs m (k + 1), ct := GoXI K L0 H0 Hm0 Hb αb ρs μs m (k + 1), bk := E.nx } σ2 H2 := by
  obtain ⟨hm, Hm, α, em, pa, S⟩ := c
  have A : Aft K α H Hm (μs k) α (upd H T (.tup [.int (k : Nat), v])) Hm := Aft.ofGr S.sto (Gr.priv S.gr.sub hT)
  refine ⟨T, [.int (k : Nat), v], rfl, .inl (.inl upd_same), rfl, _, [v], rfl, v, [], rfl, rfl, ?_⟩
  have S' := (((S.aft A).set (i := i) (x := .d (.int (k : Int))) (Dp.int (k : Int))).set (i := j) (x := .d d) (Dp.mono hv em))
  by_cases hlt : k < m
  · exact h1 k d hlt hi L0 H0 Hm0 _ _ _ Hm α S' fun σ' H' Hm' α' x p S2 => ⟨hlt, Hm', α', em.trans x, pa.trans p, S2⟩
  · have e : k = m := by omega
    subst e
    rcases h2 with ⟨z, _⟩ | ⟨d2, hd2, h3⟩
    · rw [List.getElem?_eq_none (by omega)] at hi; cases hi
    · rw [hi] at hd2
      cases hd2
      rcases h3 with ⟨r, μ', rfl, hx⟩ | ⟨ρ', μ', rfl, hx⟩
      · exact hx L0 H0 Hm0 _ _ _ Hm α S' fun v H' Hm' α' p g S2 fr hv' => f v H' Hm' α' (pa.trans p) g S2 fr hv'
      · exact hx L0 H0 Hm0 _ _ _ Hm α S' fun σ' H' Hm' α' x p S2 => f σ' H' Hm' α' (em.trans x) (pa.trans p) S2
theorem goe_end (hm : m ≤ items.length)
    (h2 : (m = items.length ∧ o = .nx (ρs m) (μs m)) ∨ ∃ d, items[m]? = some d ∧ ((∃ r μ', o = .rt r μ' ∧ XM K tu (prS (ρs m) i j m d) (μs m) (.rt r μ')) ∨ ∃ ρ' μ', o = .nx ρ' μ' ∧ XM K tu (prS (ρs m) i j m d) (μs m) (.bk ρ' μ')))
    (f : FnX K L0 H0 Hm0 Hb αb E o) (c : GoXI K L0 H0 Hm0 Hb αb ρs μs m items.length σ H) : E.nx σ H := by
  obtain ⟨hle, Hm, α, em, pa, S⟩ := c
  rcases h2 with ⟨z, rfl⟩ | ⟨d2, hd2, _⟩
  · rw [← z] at S
    exact f σ H Hm α em pa S
  · rw [List.getElem?_eq_none (by omega)] at hd2; cases hd2
theorem xm_forET (ρs : Nat → Rx) (μs : Nat → Mu) (hsrc : EXs K ta ρ μ [.d (.tuple items)] μ1) (h0 : ρs 0 = ρ) (h0' : μs 0 = μ1) (g : GoE K tu i j items ρs μs o) : XM K (tFor (iEnumT K ta) (gPr K i j) tu) ρ μ o := fun L0 H0 Hm0 E σ H Hm α S f => by
  obtain ⟨m, hm, h1, h2⟩ := g
  refine hsrc σ H Hm α S.gr.sub S.len S.sd S.sto _ fun vs H1 Hm1 α1 A hvs => ?_
  obtain ⟨v, rfl, hv⟩ := dps1 (DxAll.data (ds := [.tuple items]) hvs)
  have S1 := S.aft A
  have f1 := f.mono A.gr.em A.pre
  obtain ⟨a, xs, rfl, hx, ha⟩ := dp_tup hv
  have hl := ha.len
  refine ⟨a, xs, rfl, ex_t S1.gr.sub hx, ?_⟩
  refine ⟨fun k q σ H => k + q = xs.length ∧ GoXI K L0 H0 Hm0 Hm1 α1 ρs μs m k σ H, ⟨xs.length, Nat.zero_add _, Nat.zero_le _, Hm1, α1, Ex.refl _, List.prefix_refl _, by rw [h0, h0']; exact S1⟩, ?_⟩
  rintro k q σ' H' ⟨hq, c⟩
  have hst : SqT K H' a xs := by
    obtain ⟨_, Hm', α', x, _, S'⟩ := id c
    exact ex_t S'.gr.sub (ex_t x hx)
  by_cases hk : k < xs.length
  · obtain ⟨y, hy⟩ : ∃ y, xs[k]? = some y := ⟨_, List.getElem?_eq_getElem hk⟩
    refine .inr ⟨⟨xs, y, hst, hy⟩, GoXI K L0 H0 Hm0 Hm1 α1 ρs μs m (k + 1), fun σ2 H2 c2 => ⟨q - 1, by omega, by omega, c2⟩, fun v H2 yl => ?_⟩
    obtain ⟨T, z, rfl, hT, rfl, hz⟩ := yl
    have ez := hz xs hst
    obtain ⟨d, hd, hxd⟩ := ha.get' ez
    exact goe_turn h1 h2 f1 hd hxd c hT
  · have e : k = xs.length := by omega
    subst e
    refine .inl ⟨⟨xs, hst, Nat.le_refl _⟩, ?_⟩
    rw [hl] at c
    exact goe_end hm h2 f1 c
theorem xm_forEL (ρs : Nat → Rx) (μs : Nat → Mu) (hsrc : EXs K ta ρ μ [.d (.list items)] μ1) (h0 : ρs 0 = ρ) (h0' : μs 0 = μ1) (g : GoE K tu i j items ρs μs o) : XM K (tFor (iEnum K ta) (gPr K i j) tu) ρ μ o := fun L0 H0 Hm0 E σ H Hm α S f => by
  obtain ⟨m, hm, h1, h2⟩ := g
  refine hsrc σ H Hm α S.gr.sub S.len S.sd S.sto _ fun vs H1 Hm1 α1 A hvs => ?_
  obtain ⟨v, rfl, hv⟩ := dps1 (DxAll.data (ds := [.list items]) hvs)
  have S1 := S.aft A
  have f1 := f.mono A.gr.em A.pre
  obtain ⟨a, xs, rfl, hx, ha⟩ := dp_lst hv
  have hl := ha.len
  refine ⟨a, xs, rfl, ex_l S1.gr.sub hx, ?_⟩
  refine ⟨fun k q σ H => k + q = xs.length ∧ GoXI K L0 H0 Hm0 Hm1 α1 ρs μs m k σ H, ⟨xs.length, Nat.zero_add _, Nat.zero_le _, Hm1, α1, Ex.refl _, List.prefix_refl _, by rw [h0, h0']; exact S1⟩, ?_⟩
  rintro k q σ' H' ⟨hq, c⟩
  have hst : SqL K H' a xs := by
    obtain ⟨_, Hm', α', x, _, S'⟩ := id c
    exact ex_l S'.gr.sub (ex_l x hx)
  by_cases hk : k < xs.length
  · obtain ⟨y, hy⟩ : ∃ y, xs[k]? = some y := ⟨_, List.getElem?_eq_getElem hk⟩
    refine .inr ⟨⟨xs, y, hst, hy⟩, GoXI K L0 H0 Hm0 Hm1 α1 ρs μs m (k + 1), fun σ2 H2 c2 => ⟨q - 1, by omega, by omega, c2⟩, fun v H2 yl => ?_⟩
    obtain ⟨T, z, rfl, hT, rfl, hz⟩ := yl
    have ez := hz xs hst
    obtain ⟨d, hd, hxd⟩ := ha.get' ez
    exact goe_turn h1 h2 f1 hd hxd c hT
  · have e : k = xs.length := by omega
    subst e
    refine .inl ⟨⟨xs, hst, Nat.le_refl _⟩, ?_⟩
    rw [hl] at c
    exact goe_end hm h2 f1 c
end
end LM

set_option Elab.async false
set_option linter.all false
set_option maxRecDepth 100000
set_option maxHeartbeats 1000000
/-! LmF: rules of instances with K named; xs[::-1] of a list; new instances. -/
namespace LM
open PySem PySem.Spec PyProof.Rows L2 Evl
section
variable (K : PySem.W.Frag) {X : Cx} (h : X.K = K)
include h
theorem pe_fldK {e : Expr} {f : Str} {pos : Pos} {ta : TE} (he : PE X e ta) (hb : attributeBase e f X.env (eval e X.env) = eval e X.env) : PE X (.Attribute e f pos) (tFld K ta f) := h ▸ pe_fld he hb
theorem ps_fldK {o value : Expr} {f : Str} {pos pos' : Pos} {ta tv : TE} (ha : PE X o ta) (hv : PE X value tv) (hs : swapsWith value (some (.Attribute o f pos')) pos.line X.env = pure false) : PS X (.Assign [.Attribute o f pos'] value pos) (sFld K ta tv f) := h ▸ ps_fld ha hv hs
theorem pe_revLK {e : Expr} {te : TE} {k : Nat} {p1 p2 p3 pos : Pos} (he : PE X e te) : PE X (.Subscript e (.Slice none none (some (.UnaryOp .USub (.Constant (.int 1) k p1) p2)) p3) pos) (tRevL K te) := h ▸ pe_revL he
theorem pi_enumK {e : Expr} {ta : TA} {p pos tpos : Pos} {elts : List Expr} {kk : Nat} (hg : Gl X "enumerate") (hm : X.mg "enumerate" = none) (ha : PA X [e] ta) (hs : starEach [e] X.env = [(false, eval e X.env)] := by rfl) :
    PI X (.Tuple elts kk tpos) (.Call (.Name "enumerate" p) [e] [] pos) (iEnum K ta) := h ▸ pi_enum hg hm ha hs
end
section
variable {K : PySem.W.Frag} {ρ : Rho} {te : TE} {ds : List D}
theorem el_revL (h : ED K te ρ (.list ds)) : EL K (tRevL K te) ρ ds.reverse := fun σ H Hm s l hs Q q =>
  h σ H Hm s l hs _ fun v H1 Hm1 g1 d1 => by
    obtain ⟨a, xs, rfl, hx, ha⟩ := dp_lst d1
    exact ⟨a, xs, rfl, ex_l g1.sub hx, fun p hp => q p _ _ Hm1 (g1.trans (Gr.priv g1.sub hp)) (fresh_back g1.ex hp) (fresh_back g1.sub hp) upd_same (dps_rev ha)⟩
end
/-- a class whose instances are made by an __init__ of promise sp -/
structure HasMk (P : Program) (w : World) (K : PySem.W.Frag) (mg : Str → Option Value) (base : Heap) (k : Nat) (x : Str) (C : Addr) (sp : Sp) : Prop where
  ex : ∃ f fd ps, FnOk P w K mg base CX0 k f fd ps sp ∧ Mk K C f ∧ mg x = some (.ref C) ∧ Binds K fd ps []
section
variable {X : Cx} {k j : Nat} {x : Str} {C : Addr} {sp : Sp} {e : Expr} {es : List Expr} {p pos : Pos} {t : TA}
theorem pe_mk (c : HasMk X.prog X.w X.K X.mg X.base k x C sp) (hr : Room j X.A) (hk : k + 1 ≤ j) (hg : Gl X x) (ha : PA X (e :: es) t) (hdb : (x == ("__debug__" : Str)) = false := by decide) (he : starEach (e :: es) X.env = (false, eval e X.env) :: starEach es X.env := by rfl) (hpl : (backTo pos (starEach es X.env)).any (·.1) = false := by rfl) :
    PE X (.Call (.Name x p) (e :: es) [] pos) (tMake C sp [] E0 t) := by
  obtain ⟨f, fd, ps, F, M, m, b⟩ := c.ex
  exact pe_make M F (hr.mono hk) hg m b .nil pass0 ha (hdb := hdb) (he := he) (hpl := hpl)
theorem pe_mk0 (c : HasMk X.prog X.w X.K X.mg X.base k x C sp) (hr : Room j X.A) (hk : k + 1 ≤ j) (hg : Gl X x) (hdb : (x == ("__debug__" : Str)) = false := by decide) :
    PE X (.Call (.Name x p) [] [] pos) (tMake C sp [] E0 tNil) := by
  obtain ⟨f, fd, ps, F, M, m, b⟩ := c.ex
  exact pe_make0 M F (hr.mono hk) hg m b .nil pass0 (hdb := hdb)
end
section
variable {K : PySem.W.Frag} {ρ : Rx} {μ μ1 μ2 : Mu} {te : TE} {t : TT} {d e : D} {x y : SV} {b c : Bool}
/-- by what is read of slots, an expression's value (any order of slots and cells) -/
theorem ex_it (h : EX K te ρ μ (.d d) μ2) (e' : d = e) : EX K te ρ μ (.d e) μ2 := e' ▸ h
theorem xm_ifF2 {tt : TT} {t u : TS} {o : OutX} (h : TX K tt ρ μ b μ1) (hb : b = false) (h1 : XM K u ρ μ1 o) : XM K (tIfS tt t u) ρ μ o := xm_ifF (hb ▸ h) h1
theorem xm_ifT2 {tt : TT} {t u : TS} {o : OutX} (h : TX K tt ρ μ b μ1) (hb : b = true) (h1 : XM K t ρ μ1 o) : XM K (tIfS tt t u) ρ μ o := xm_ifT (hb ▸ h) h1
end
end LM
namespace LM
open PySem PySem.Spec PyProof.Rows L2 Evl
section
variable {K : PySem.W.Frag} {ρ : Rx} {μ μ1 μ2 : Mu} {te : TE} {tl th : TO} {ds : List D} {lo hi : Option Int} {n : Nat} {C : Addr} {fs : List (Str × SV)} {f : Str} {x : SV} {i : Nat}
theorem ex_slT (h : EX K te ρ μ (.d (.tuple ds)) μ1) (h1 : EO K tl (pur ρ) lo) (h2 : EO K th (pur ρ) hi) : EX K (tSl (rSlU K) te tl th) ρ μ (.d (.tuple (cut ds lo hi))) μ1 := fun σ H Hm α s l hs S Q q =>
  h σ H Hm α s l hs S _ fun v H1 Hm1 α1 A1 d1 => by
    have l' : (pur ρ).length ≤ σ.length := by rw [pur_len]; exact l
    have hs1 := (hs.aft A1).pur
    refine h1 σ H1 Hm1 A1.gr.sub l' hs1 _ fun H2 Hm2 g2 => h2 σ H2 Hm2 g2.sub l' (hs1.mono g2.em) _ fun H3 Hm3 g3 => ?_
    obtain ⟨a, xs, rfl, hx, ha⟩ := dp_tup d1
    have g23 := g2.trans g3
    have A3 := A1.trans (Aft.ofGr A1.sto g23)
    refine .inl ⟨a, xs, rfl, ex_t g3.sub (ex_t g23.em hx), fun e => ?_, fun _ p hp => ?_⟩
    · have e' : cut ds lo hi = ds := by
        unfold cut
        rw [← ha.len, e.1, e.2, ha.len, List.drop_zero, Nat.sub_zero, List.take_length]
      rw [e'] at q
      exact q _ H3 Hm3 α1 A3 (Dp.tup (ex_t g23.em hx) (ha.mono g23.em))
    · exact q _ _ _ α1 (A3.trans (Aft.ofGr A3.sto (Gr.new g3.sub hp))) (Dp.tup (.inl (.inl upd_same)) (((cut_dp ha).mono g23.em).mono (Ex.new (fresh_back g3.sub hp))))
/-- self.f, self in slot i -/
theorem ex_self (hi : ρ[i]? = some (some (.o n))) (hm : μ[n]? = some (.ins C fs)) (c : Cls K C) (na : NoAttr K C f) (hf : fs.lookup f = some x) : EX K (tFld K (tVar i) f) ρ μ x μ := ex_fld (ex_var hi) hm c na hf
end
end LM

set_option Elab.async false
set_option linter.all false
set_option maxRecDepth 100000
set_option maxHeartbeats 4000000
namespace LM
open PySem PySem.Spec PyProof.Rows L2 Evl
def topS (i : Nat) : Stmt := PySem.Challenge.pw_lastmove_k61_whole_match_twins.main.body.getD i (.Pass ⟨0, 0, 0, 0⟩)
/-! the mathematics -/
def cellAt (ns : List Int) (k : Int) : Int := ns.getD k.toNat 0
def mixed (ns : List Int) (k : Int) : Int :=
  (((cellAt ns k + 7919 * k + 1) * 48271 % 2147483647) * ((cellAt ns k + 7919 * k + 1) * 48271 % 2147483647) + 7 * ((cellAt ns k + 7919 * k + 1) * 48271 % 2147483647) + k) % 2147483629
def drawn (n k : Int) : Int :=
  (((n + 104729 * k + 17) * 69621 % 2147483647) * ((n + 104729 * k + 17) * 69621 % 2147483647) + 3 * ((n + 104729 * k + 17) * 69621 % 2147483647) + k) % 2147483629
theorem drawn_bd (n k : Int) : 0 ≤ drawn n k ∧ drawn n k < 2147483629 := ⟨Int.emod_nonneg _ (by decide), Int.emod_lt_of_pos _ (by decide)⟩
theorem mixed_bd (ns : List Int) (k : Int) : 0 ≤ mixed ns k ∧ mixed ns k < 2147483629 := ⟨Int.emod_nonneg _ (by decide), Int.emod_lt_of_pos _ (by decide)⟩
theorem cmul_sq {i : Int} (h0 : 0 ≤ i) (h1 : i < 4294967296) : CMul i i := .inl ⟨by omega, by omega⟩
theorem mod_bd (x : Int) : 0 ≤ x % 2147483647 ∧ x % 2147483647 < 4294967296 := ⟨Int.emod_nonneg _ (by decide), by have := Int.emod_lt_of_pos x (show (0 : Int) < 2147483647 by decide); omega⟩
section
variable {P : Program} {w : World} {K : PySem.W.Frag} {mg : Str → Option Value} {base : Heap} {f : Addr} {fd : FuncData} {k j : Nat}
def RCell (ds : List D) (r : D) : Prop := ∃ ns k, ds = [.list (ns.map PyData.int), .int k] ∧ 0 ≤ k ∧ r = .int (cellAt ns k)
def RMixed (ds : List D) (r : D) : Prop := ∃ ns k, ds = [.list (ns.map PyData.int), .int k] ∧ 0 ≤ k ∧ k ≤ 1000000 ∧ r = .int (mixed ns k)
def RDrawn (ds : List D) (r : D) : Prop := ∃ n k, ds = [.int n, .int k] ∧ 0 ≤ k ∧ k ≤ 1000000 ∧ r = .int (drawn n k)
end
/-! ### _law_cell_at -/
abbrev sLawCellAt : Stmt := topS 12
abbrev nLawCellAt : List Str := ["_law_script", "_law_k"]
theorem scLawCellAt : FnScope nLawCellAt ["_law_script", "_law_k"] (defScope sLawCellAt) := ⟨rfl, rfl, rfl, by decide +kernel, rfl, by decide +kernel, by decide +kernel⟩
section
variable {P : Program} {w : World} {K : PySem.W.Frag} {mg : Str → Option Value} {base : Heap} {f : Addr} {fd : FuncData} {k j : Nat}
theorem has__law_cell_at (B : BI mg) (F : Fun K "_law_cell_at" "_law_cell_at" sLawCellAt f fd) (b : Binds K fd ["_law_script", "_law_k"] []) (hm : mg "_law_cell_at" = some (.ref f)) : Has P w K mg base (k + 1) "_law_cell_at" (SpR K RCell) := by
  refine has_of F b hm scLawCellAt (by decide) (fun ds r h => by obtain ⟨_, _, rfl, _⟩ := h; rfl) (fun cdv A outer s H E hr => ⟨_, (pss_cons (ps_if (pt_cmpR (op_ltK K rfl (hu64 hr)) (pv 1) (pe_callB (call_lenK K rfl) (by rfl) B.len boot_len (pa_cons (pv 0) pa_nil)) (nomark _)) (pss_one (ps_ret (pe_ix (ix_K K rfl) (pv 0) (pv 1) (fun _ _ => rfl)))) pss_nil)
    (pss_one (ps_ret pe_int))), fun ds r h => ?_⟩)
  try dsimp only [cxOf, Cx.nox, Cx.wish]
  obtain ⟨ns, z, rfl, h0, rfl⟩ := h
  refine xd_ifs (by (repeat' (first
    | exact ed_var rfl | exact ed_int | exact ed_bl | exact ed_str | exact ed_non
    | exact eds_nil | with_reducible refine' eds_cons ?_ ?_
    | exact rd_addI | exact rd_sub | exact rd_ltI | exact rd_geI | exact rd_gtI | exact rd_le | exact rd_lt | exact rd_eqI | exact rd_neI | exact rd_eqS | exact rd_neS
    | exact rd_mulI (.inr ⟨by decide, by decide⟩) | exact rd_mulI (.inl ⟨by decide, by decide⟩) | exact rd_mod (by decide) | exact rd_div ⟨by decide, by decide⟩
    | exact ud_neg
    | exact et_yes
    | with_reducible refine' ed_op ?_ ?_ ?_ | with_reducible refine' ed_un ?_ ?_ | with_reducible refine' ed_tup ?_ ?_ | with_reducible refine' et_test ?_ | with_reducible refine' et_B ?_ | with_reducible refine ed_notV ?_ | with_reducible refine et_not ?_
    | exact cd_max2 | exact cd_min2 | exact cd_abs | exact cd_lenL | exact cd_lenT | exact cd_tupL | exact cd_tupT
    | exact ed_isi (by assumption) rfl
    | with_reducible refine' ed_cb ?_ ?_ ))) (fun c => ?_) (fun c => ?_)
  · have c' := of_decide_eq_true c
    rw [List.length_map] at c'
    refine xd_rets ?_
    refine ed_op (ed_var rfl) (ed_var rfl) (rd_ixUL (atI_map (atI_z h0 ?_)))
    unfold cellAt
    have : z.toNat < ns.length := by omega
    rw [List.getD_eq_getElem?_getD, List.getElem?_eq_getElem this]; rfl
  · have c' := of_decide_eq_false c
    rw [List.length_map] at c'
    refine xd_nexts (xd_ret (ed_is ed_int ?_))
    unfold cellAt
    rw [List.getD_eq_getElem?_getD, List.getElem?_eq_none (by omega)]; rfl
end
/-! ### _law_mixed -/
abbrev sLawMixed : Stmt := topS 13
abbrev nLawMixed : List Str := ["_law_script", "_law_k", "_law_drawn_here"]
theorem scLawMixed : FnScope nLawMixed ["_law_script", "_law_k"] (defScope sLawMixed) := ⟨rfl, rfl, rfl, by decide +kernel, rfl, by decide +kernel, by decide +kernel⟩
section
variable {P : Program} {w : World} {K : PySem.W.Frag} {mg : Str → Option Value} {base : Heap} {f : Addr} {fd : FuncData} {k j : Nat}
theorem has__law_mixed (B : BI mg) (F : Fun K "_law_mixed" "_law_mixed" sLawMixed f fd) (b : Binds K fd ["_law_script", "_law_k"] []) (hm : mg "_law_mixed" = some (.ref f)) (h__law_cell_at : Has P w K mg base k "_law_cell_at" (SpR K RCell)) : Has P w K mg base (k + 1) "_law_mixed" (SpR K RMixed) := by
  refine has_of F b hm scLawMixed (by decide) (fun ds r h => by obtain ⟨_, _, rfl, _⟩ := h; rfl) (fun cdv A outer s H E hr => ⟨_, (pss_cons (ps_set (i := 2) scLawMixed.nd rfl (by first | exact .inl rfl | exact .inr rfl) (pe_op op_mod (pe_op (op_mulK K rfl) (pe_op (op_addK K rfl) (pe_op (op_addK K rfl) (pe_h h__law_cell_at hr (by omega) (by rfl) (pa_cons (pv 0) (pa_cons (pv 1) pa_nil))) (pe_op (op_mulK K rfl) pe_int (pv 1))) pe_int) pe_int) pe_int))
    (pss_one (ps_ret (pe_op op_mod (pe_op (op_addK K rfl) (pe_op (op_addK K rfl) (pe_op (op_mulK K rfl) (pv 2) (pv 2)) (pe_op (op_mulK K rfl) pe_int (pv 2))) (pv 1)) pe_int)))), fun ds r h => ?_⟩)
  try dsimp only [cxOf, Cx.nox, Cx.wish]
  obtain ⟨ns, z, rfl, h0, h1, rfl⟩ := h
  have m := mod_bd ((cellAt ns z + 7919 * z + 1) * 48271)
  refine xd_seq (xd_asg (d := .int ((cellAt ns z + 7919 * z + 1) * 48271 % 2147483647)) ?_) (xd_ret (d := .int (mixed ns z)) ?_)
  · refine' ed_op (ed_op (ed_op (ed_op (ed_call (eds_cons (ed_var rfl) (eds_cons (ed_var rfl) eds_nil)) ⟨ns, z, rfl, h0, rfl⟩) ?_ ?_) ?_ ?_) ?_ ?_) ?_ ?_ <;> (repeat' (first
    | exact ed_var rfl | exact ed_int | exact ed_bl | exact ed_str | exact ed_non
    | exact eds_nil | with_reducible refine' eds_cons ?_ ?_
    | exact rd_addI | exact rd_sub | exact rd_ltI | exact rd_geI | exact rd_gtI | exact rd_le | exact rd_lt | exact rd_eqI | exact rd_neI | exact rd_eqS | exact rd_neS
    | exact rd_mulI (.inr ⟨by decide, by decide⟩) | exact rd_mulI (.inl ⟨by decide, by decide⟩) | exact rd_mod (by decide) | exact rd_div ⟨by decide, by decide⟩
    | exact ud_neg
    | exact et_yes
    | with_reducible refine' ed_op ?_ ?_ ?_ | with_reducible refine' ed_un ?_ ?_ | with_reducible refine' ed_tup ?_ ?_ | with_reducible refine' et_test ?_ | with_reducible refine' et_B ?_ | with_reducible refine ed_notV ?_ | with_reducible refine et_not ?_
    | exact cd_max2 | exact cd_min2 | exact cd_abs | exact cd_lenL | exact cd_lenT | exact cd_tupL | exact cd_tupT
    | exact ed_isi (by assumption) rfl
    | with_reducible refine' ed_cb ?_ ?_ ))
  · refine' ed_op (ed_op (ed_op (ed_op (ed_var rfl) (ed_var rfl) (rd_mulI (cmul_sq m.1 m.2))) ?_ ?_) ?_ ?_) ?_ ?_ <;> (repeat' (first
    | exact ed_var rfl | exact ed_int | exact ed_bl | exact ed_str | exact ed_non
    | exact eds_nil | with_reducible refine' eds_cons ?_ ?_
    | exact rd_addI | exact rd_sub | exact rd_ltI | exact rd_geI | exact rd_gtI | exact rd_le | exact rd_lt | exact rd_eqI | exact rd_neI | exact rd_eqS | exact rd_neS
    | exact rd_mulI (.inr ⟨by decide, by decide⟩) | exact rd_mulI (.inl ⟨by decide, by decide⟩) | exact rd_mod (by decide) | exact rd_div ⟨by decide, by decide⟩
    | exact ud_neg
    | exact et_yes
    | with_reducible refine' ed_op ?_ ?_ ?_ | with_reducible refine' ed_un ?_ ?_ | with_reducible refine' ed_tup ?_ ?_ | with_reducible refine' et_test ?_ | with_reducible refine' et_B ?_ | with_reducible refine ed_notV ?_ | with_reducible refine et_not ?_
    | exact cd_max2 | exact cd_min2 | exact cd_abs | exact cd_lenL | exact cd_lenT | exact cd_tupL | exact cd_tupT
    | exact ed_isi (by assumption) rfl
    | with_reducible refine' ed_cb ?_ ?_ ))
end
/-! ### _law_drawn -/
abbrev sLawDrawn : Stmt := topS 14
abbrev nLawDrawn : List Str := ["_law_number", "_law_k", "_law_drawn_here"]
theorem scLawDrawn : FnScope nLawDrawn ["_law_number", "_law_k"] (defScope sLawDrawn) := ⟨rfl, rfl, rfl, by decide +kernel, rfl, by decide +kernel, by decide +kernel⟩
section
variable {P : Program} {w : World} {K : PySem.W.Frag} {mg : Str → Option Value} {base : Heap} {f : Addr} {fd : FuncData} {k j : Nat}
theorem has__law_drawn (B : BI mg) (F : Fun K "_law_drawn" "_law_drawn" sLawDrawn f fd) (b : Binds K fd ["_law_number", "_law_k"] []) (hm : mg "_law_drawn" = some (.ref f)) : Has P w K mg base (k + 1) "_law_drawn" (SpR K RDrawn) := by
  refine has_of F b hm scLawDrawn (by decide) (fun ds r h => by obtain ⟨_, _, rfl, _⟩ := h; rfl) (fun cdv A outer s H E hr => ⟨_, (pss_cons (ps_set (i := 2) scLawDrawn.nd rfl (by first | exact .inl rfl | exact .inr rfl) (pe_op op_mod (pe_op (op_mulK K rfl) (pe_op (op_addK K rfl) (pe_op (op_addK K rfl) (pv 0) (pe_op (op_mulK K rfl) pe_int (pv 1))) pe_int) pe_int) pe_int))
    (pss_one (ps_ret (pe_op op_mod (pe_op (op_addK K rfl) (pe_op (op_addK K rfl) (pe_op (op_mulK K rfl) (pv 2) (pv 2)) (pe_op (op_mulK K rfl) pe_int (pv 2))) (pv 1)) pe_int)))), fun ds r h => ?_⟩)
  try dsimp only [cxOf, Cx.nox, Cx.wish]
  obtain ⟨n, z, rfl, h0, h1, rfl⟩ := h
  have m := mod_bd ((n + 104729 * z + 17) * 69621)
  refine xd_seq (xd_asg (d := .int ((n + 104729 * z + 17) * 69621 % 2147483647)) ?_) (xd_ret (d := .int (drawn n z)) ?_)
  · (repeat' (first
    | exact ed_var rfl | exact ed_int | exact ed_bl | exact ed_str | exact ed_non
    | exact eds_nil | with_reducible refine' eds_cons ?_ ?_
    | exact rd_addI | exact rd_sub | exact rd_ltI | exact rd_geI | exact rd_gtI | exact rd_le | exact rd_lt | exact rd_eqI | exact rd_neI | exact rd_eqS | exact rd_neS
    | exact rd_mulI (.inr ⟨by decide, by decide⟩) | exact rd_mulI (.inl ⟨by decide, by decide⟩) | exact rd_mod (by decide) | exact rd_div ⟨by decide, by decide⟩
    | exact ud_neg
    | exact et_yes
    | with_reducible refine' ed_op ?_ ?_ ?_ | with_reducible refine' ed_un ?_ ?_ | with_reducible refine' ed_tup ?_ ?_ | with_reducible refine' et_test ?_ | with_reducible refine' et_B ?_ | with_reducible refine ed_notV ?_ | with_reducible refine et_not ?_
    | exact cd_max2 | exact cd_min2 | exact cd_abs | exact cd_lenL | exact cd_lenT | exact cd_tupL | exact cd_tupT
    | exact ed_isi (by assumption) rfl
    | with_reducible refine' ed_cb ?_ ?_ ))
  · refine' ed_op (ed_op (ed_op (ed_op (ed_var rfl) (ed_var rfl) (rd_mulI (cmul_sq m.1 m.2))) ?_ ?_) ?_ ?_) ?_ ?_ <;> (repeat' (first
    | exact ed_var rfl | exact ed_int | exact ed_bl | exact ed_str | exact ed_non
    | exact eds_nil | with_reducible refine' eds_cons ?_ ?_
    | exact rd_addI | exact rd_sub | exact rd_ltI | exact rd_geI | exact rd_gtI | exact rd_le | exact rd_lt | exact rd_eqI | exact rd_neI | exact rd_eqS | exact rd_neS
    | exact rd_mulI (.inr ⟨by decide, by decide⟩) | exact rd_mulI (.inl ⟨by decide, by decide⟩) | exact rd_mod (by decide) | exact rd_div ⟨by decide, by decide⟩
    | exact ud_neg
    | exact et_yes
    | with_reducible refine' ed_op ?_ ?_ ?_ | with_reducible refine' ed_un ?_ ?_ | with_reducible refine' ed_tup ?_ ?_ | with_reducible refine' et_test ?_ | with_reducible refine' et_B ?_ | with_reducible refine ed_notV ?_ | with_reducible refine et_not ?_
    | exact cd_max2 | exact cd_min2 | exact cd_abs | exact cd_lenL | exact cd_lenT | exact cd_tupL | exact cd_tupT
    | exact ed_isi (by assumption) rfl
    | with_reducible refine' ed_cb ?_ ?_ ))
end
end LM

set_option Elab.async false
set_option linter.all false
set_option maxRecDepth 100000
set_option maxHeartbeats 4000000
namespace LM
open PySem PySem.Spec PyProof.Rows L2 Evl
section
def ROnce (ds : List D) (r : D) : Prop := ∃ ts : List T, ds = [.list (ts.map T.data)] ∧ (∀ t ∈ ts, full t = true) ∧ T.depths ts ≤ 60 ∧ ts.length ≤ 50000 ∧ r = .tuple ((T.set ts).map T.data)
/-- the game of these moves -/
def T.gm (ls rs : List T) : T := .n [.n ls, .n rs]
theorem T.gm_data (ls rs : List T) : (T.gm ls rs).data = .tuple [.tuple (ls.map T.data), .tuple (rs.map T.data)] := by
  unfold T.gm
  rw [T.data_n, List.map_cons, List.map_cons, List.map_nil, T.data_n, T.data_n]
def RBy (ds : List D) (r : D) : Prop := ∃ ls rs : List T, ds = [.list (ls.map T.data), .list (rs.map T.data)] ∧ (∀ t ∈ ls, full t = true) ∧ (∀ t ∈ rs, full t = true) ∧ T.depths ls ≤ 60 ∧ T.depths rs ≤ 60 ∧ ls.length ≤ 50000 ∧ rs.length ≤ 50000 ∧ r = (T.gm (T.set ls) (T.set rs)).data
end
/-! ### _law_once -/
abbrev sLawOnce : Stmt := topS 15
abbrev nLawOnce : List Str := ["_law_some", "_law_found", "_law_one"]
theorem scLawOnce : FnScope nLawOnce ["_law_some"] (defScope sLawOnce) := ⟨rfl, rfl, rfl, by decide +kernel, rfl, by decide +kernel, by decide +kernel⟩
section
variable {P : Program} {w : World} {K : PySem.W.Frag} {mg : Str → Option Value} {base : Heap} {f : Addr} {fd : FuncData} {k j : Nat}
theorem has__law_once (B : BI mg) (F : Fun K "_law_once" "_law_once" sLawOnce f fd) (b : Binds K fd ["_law_some"] []) (hm : mg "_law_once" = some (.ref f)) : Has P w K mg base (k + 1) "_law_once" (SpR K ROnce) := by
  refine has_of F b hm scLawOnce (by decide) (fun ds r h => by obtain ⟨_, rfl, _⟩ := h; rfl) (fun cdv A outer s H E hr => ⟨_, (pss_cons (ps_set (i := 1) scLawOnce.nd rfl (by first | exact .inl rfl | exact .inr rfl) (pe_lst pa_nil))
    (pss_cons (ps_for PassesOwn.never rfl (pi_listK K rfl (pe_callB (cr_sortedK K rfl (hu100 hr)) (by rfl) B.sorted boot_sorted (pa_cons (pv 0) pa_nil))) (pg_name (i := 2) scLawOnce.nd rfl (by first | exact .inl rfl | exact .inr rfl)) (pss_one (ps_if (pw_or (pt_cmpR (op_eqK K rfl (hu64 hr)) (pv 1) (pe_lst pa_nil) (nomark _)) (pw_or1 (pt_cmpR (op_neK K rfl (hu64 hr)) (pe_ix (ix_K K rfl) (pv 1) (pe_un un_neg pe_int) (fun _ _ => rfl)) (pv 2) (nomark _)))).pt (pss_one (ps_expr (pe_bmK K rfl (pe_bm PySem.F.plainAttrs_list PySem.F.slot_list_append PySem.F.type_list_append mt_append (pv 1) (pa_cons (pv 2) pa_nil))))) pss_nil)))
    (pss_one (ps_ret (pe_callTy (call_tupleK K rfl) (by rfl) B.tuple boot_tuple (pa_cons (pv 1) pa_nil)))))), fun ds r h => ?_⟩)
  try dsimp only [cxOf, Cx.nox, Cx.wish]
  obtain ⟨ts, rfl, hf, hd, hn, rfl⟩ := h
  have o1 : ∀ i, T.Asc (T.once [] ((T.sort ts).take i)) ∧ ∀ x, x ∈ T.once [] ((T.sort ts).take i) ↔ x ∈ [] ∨ x ∈ (T.sort ts).take i := fun i => T.once_set ((T.sort ts).take i) [] List.Pairwise.nil ((T.sort_srt ts).sublist (List.take_sublist _ _)) (fun a ha => by cases ha)
  have on : ∀ i, ∀ x ∈ T.once [] ((T.sort ts).take i), x ∈ ts := fun i x hx => by
    rcases ((o1 i).2 x).mp hx with h | h
    · cases h
    · exact T.mem_sort.mp (List.mem_of_mem_take h)
  have dn : ∀ i, T.depths (T.once [] ((T.sort ts).take i)) ≤ 60 := fun i => T.depths_le fun x hx => Nat.le_trans (T.depth_mem (on i x hx)) hd
  have ln : ∀ i, (T.once [] ((T.sort ts).take i)).length ≤ 50000 := fun i => Nat.le_trans ((o1 i).1.nodup.length_le_of_subset (on i)) hn
  refine (show XD K _ [some (.list (ts.map T.data)), none, none] none _ from ?_)
  refine xd_seq (xd_asgOwn (el_lst eds_nil)) ?_
  refine xd_seq (xd_forL (fun _ => [some (.list (ts.map T.data)), none, none]) (fun i => some (1, (T.once [] ((T.sort ts).take i)).map T.data)) (ed_el (el_cb (eds_cons (ed_var rfl) eds_nil) (cl_sortedTr hf hd))) rfl rfl (fun i q e => by cases e; show (1 : Nat) ≠ 2; decide) (Go.allF (fun _ d => by simp) (fun _ => rfl) fun i d hi => ?_)) ?_
  · skip
    rw [List.getElem?_map] at hi
    obtain ⟨x, hx, rfl⟩ := Option.map_eq_some_iff.mp hi
    have hmem : x ∈ ts := T.mem_sort.mp (List.mem_of_getElem? hx)
    have hdx : x.depth ≤ 60 := Nat.le_trans (T.depth_mem hmem) hd
    have hd0 := dn i
    have hl0 := ln i
    rw [List.take_add_one, hx, Option.toList_some, T.once_app]
    generalize T.once [] ((T.sort ts).take i) = ys at *
    have sh : SeqAt.shaped (.list (ys.map T.data)) = true := (fit_lst.mpr (fit_Ts hd0)).shaped (by decide)
    have shx : SeqAt.shaped x.data = true := (fit_T (Nat.le_refl _)).shaped (by omega)
    refine xd_if (b := decide (ys.getLast? ≠ some x)) (et_is' (et_or (x := ys.isEmpty) (y := decide (ys.getLast? ≠ some x)) (et_is' (et_test (ed_op (ed_var rfl) (ed_el (el_lst eds_nil)) (rd_eqU sh rfl))) ?_) fun ne => ?_) ?_) (fun c => ?_) (fun c => ?_)
    · rw [eqv_list, eqvs_nil]; simp
    · have hne : ys ≠ [] := fun e => by rw [e] at ne; cases ne
      obtain ⟨zs, z, rfl⟩ : ∃ zs z, ys = zs ++ [z] := ⟨_, _, (List.dropLast_concat_getLast hne).symm⟩
      have hz : z.depth ≤ 60 := Nat.le_trans (T.depth_mem (by simp)) hd0
      refine et_is' (et_test (ed_op (ed_op (ed_var rfl) (ed_un ed_int ud_neg) (rd_ixUL (d := z.data) ?_)) (ed_var rfl) (rd_neU ((fit_T (Nat.le_refl _)).shaped (by omega)) shx))) ?_
      · rw [List.map_append]; exact atI_last
      · rw [T.data_eqv, List.getLast?_append]; simp
    · cases ys with
      | nil => simp
      | cons y ys => simp
    · have c' := of_decide_eq_true c
      rw [if_neg c', List.map_append]
      exact xd_app (ed_var rfl) (imm_T x) (by rw [List.length_map]; omega)
    · have c' := of_decide_eq_false c
      rw [if_pos (Classical.not_not.mp c')]
      exact xd_next
  · refine xd_ret (ed_cb (eds_cons (ed_var rfl) eds_nil) ?_)
    rw [List.length_map, List.take_length, T.once_sort]
    exact cd_tupL
end
/-! ### _law_by -/
abbrev sLawBy : Stmt := topS 16
abbrev nLawBy : List Str := ["_law_lefts", "_law_rights"]
theorem scLawBy : FnScope nLawBy ["_law_lefts", "_law_rights"] (defScope sLawBy) := ⟨rfl, rfl, rfl, by decide +kernel, rfl, by decide +kernel, by decide +kernel⟩
section
variable {P : Program} {w : World} {K : PySem.W.Frag} {mg : Str → Option Value} {base : Heap} {f : Addr} {fd : FuncData} {k j : Nat}
theorem has__law_by (B : BI mg) (F : Fun K "_law_by" "_law_by" sLawBy f fd) (b : Binds K fd ["_law_lefts", "_law_rights"] []) (hm : mg "_law_by" = some (.ref f)) (h__law_once : Has P w K mg base k "_law_once" (SpR K ROnce)) : Has P w K mg base (k + 1) "_law_by" (SpR K RBy) := by
  refine has_of F b hm scLawBy (by decide) (fun ds r h => by obtain ⟨_, _, rfl, _⟩ := h; rfl) (fun cdv A outer s H E hr => ⟨_, (pss_one (ps_ret (pe_tup (pa_cons (pe_h h__law_once hr (by omega) (by rfl) (pa_cons (pv 0) pa_nil)) (pa_cons (pe_h h__law_once hr (by omega) (by rfl) (pa_cons (pv 1) pa_nil)) pa_nil))))), fun ds r h => ?_⟩)
  try dsimp only [cxOf, Cx.nox, Cx.wish]
  obtain ⟨ls, rs, rfl, fl, fr, dl, dr, nl, nr, rfl⟩ := h
  rw [T.gm_data]
  exact xd_ret (ed_tup (eds_cons (ed_call (eds_cons (ed_var rfl) eds_nil) ⟨ls, rfl, fl, dl, nl, rfl⟩) (eds_cons (ed_call (eds_cons (ed_var rfl) eds_nil) ⟨rs, rfl, fr, dr, nr, rfl⟩) eds_nil)) (by simp))
end
/-! the games that a law draws -/
def many (n who : Int) : Nat := [0, 1, 1, 2].getD ((drawn n who) % 4).toNat 0
theorem many_le (n who : Int) : many n who ≤ 2 := by
  unfold many
  have h0 := Int.emod_nonneg (drawn n who) (show (4 : Int) ≠ 0 by decide)
  have h1 := Int.emod_lt_of_pos (drawn n who) (show (0 : Int) < 4 by decide)
  generalize (drawn n who) % 4 = z at h0 h1 ⊢
  have : z = 0 ∨ z = 1 ∨ z = 2 ∨ z = 3 := by omega
  rcases this with e | e | e | e <;> subst e <;> decide
theorem many_at (n who : Int) : atI [PyData.int 0, .int 1, .int 1, .int 2] (drawn n who % 4) = some (.int (many n who : Int)) := by
  unfold many
  have h0 := Int.emod_nonneg (drawn n who) (show (4 : Int) ≠ 0 by decide)
  have h1 := Int.emod_lt_of_pos (drawn n who) (show (0 : Int) < 4 by decide)
  generalize (drawn n who) % 4 = z at h0 h1 ⊢
  have : z = 0 ∨ z = 1 ∨ z = 2 ∨ z = 3 := by omega
  rcases this with e | e | e | e <;> subst e <;> rfl
def intD : D → Int
  | .int i => i
  | _ => 0
theorem mem_rng {d : D} {lo : Int} {n : Nat} (h : d ∈ rngD lo n) : ∃ i : Nat, i < n ∧ d = .int (lo + (i : Int)) := by
  unfold rngD at h
  obtain ⟨i, hi, rfl⟩ := List.mem_map.mp h
  exact ⟨i, List.mem_range.mp hi, rfl⟩
def rowOf (g : Int → T) (n who : Int) : List T := (List.range (many n who)).map fun (k : Nat) => g (drawn n (10 + 4 * who + (k : Int)))
def gmOf (g : Int → T) (n : Int) : T := T.gm (T.set (rowOf g n 0)) (T.set (rowOf g n 1))
def game : Nat → Int → T
  | 0, _ => T.gm [] []
  | 1, n => gmOf (game 0) n
  | d + 2, n => if n / 7 % 2 = 0 then gmOf (game (d + 1)) n else gmOf (game d) n
/-- a game that lasts at most n, each row of at most 2 moves -/
def T.G : Nat → T → Prop
  | 0, t => t = T.gm [] []
  | m + 1, t => ∃ ls rs, t = T.gm ls rs ∧ T.Asc ls ∧ T.Asc rs ∧ ls.length ≤ 2 ∧ rs.length ≤ 2 ∧ (∀ x ∈ ls, T.G m x) ∧ ∀ x ∈ rs, T.G m x
theorem T.G.up : ∀ {m : Nat} {t : T}, T.G m t → T.G (m + 1) t
  | 0, t, h => ⟨[], [], h, List.Pairwise.nil, List.Pairwise.nil, by simp, by simp, by simp, by simp⟩
  | m + 1, t, h => by
    obtain ⟨ls, rs, e, a, b, c, d, h1, h2⟩ := h
    exact ⟨ls, rs, e, a, b, c, d, fun x hx => T.G.up (h1 x hx), fun x hx => T.G.up (h2 x hx)⟩
theorem T.G.le {k m : Nat} {t : T} (h : T.G k t) (hm : k ≤ m) : T.G m t := by
  induction hm with
  | refl => exact h
  | step _ ih => exact ih.up
theorem gm_full (ls rs : List T) : full (T.gm ls rs) = true := rfl
theorem gm_depth (ls rs : List T) : (T.gm ls rs).depth = max (T.depths ls) (T.depths rs) + 2 := by
  unfold T.gm
  simp only [T.depth, T.depths]
  omega
theorem T.G.full : ∀ {m : Nat} {t : T}, T.G m t → LM.full t = true
  | 0, t, h => by rw [show t = T.gm [] [] from h]; rfl
  | m + 1, t, h => by obtain ⟨ls, rs, rfl, _⟩ := h; rfl
theorem T.G.depth : ∀ {m : Nat} {t : T}, T.G m t → t.depth ≤ 2 * m + 2
  | 0, t, h => by rw [show t = T.gm [] [] from h, gm_depth]; simp [T.depths]
  | m + 1, t, h => by
    obtain ⟨ls, rs, rfl, _, _, _, _, h1, h2⟩ := h
    have a := T.depths_le (k := 2 * m + 2) fun x hx => T.G.depth (h1 x hx)
    have b := T.depths_le (k := 2 * m + 2) fun x hx => T.G.depth (h2 x hx)
    rw [gm_depth]
    omega
theorem row_map (g : Int → T) (n who : Int) : (rngD 0 (many n who)).map (fun d => (g (drawn n (10 + 4 * who + intD d))).data) = (rowOf g n who).map T.data := by
  unfold rowOf rngD
  rw [List.map_map, List.map_map]
  refine List.map_congr_left fun i _ => ?_
  show (g (drawn n (10 + 4 * who + (0 + (i : Int))))).data = (g (drawn n (10 + 4 * who + (i : Int)))).data
  rw [Int.zero_add]
theorem row_G {g : Int → T} {m : Nat} (h : ∀ n, T.G m (g n)) (n who : Int) : (∀ x ∈ rowOf g n who, T.G m x) ∧ (rowOf g n who).length ≤ 2 := by
  unfold rowOf
  refine ⟨fun x hx => ?_, by rw [List.length_map, List.length_range]; exact many_le n who⟩
  obtain ⟨k, _, rfl⟩ := List.mem_map.mp hx
  exact h _
theorem gmOf_G {g : Int → T} {m : Nat} (h : ∀ n, T.G m (g n)) (n : Int) : T.G (m + 1) (gmOf g n) := by
  obtain ⟨a1, a2⟩ := row_G h n 0
  obtain ⟨b1, b2⟩ := row_G h n 1
  exact ⟨_, _, rfl, T.asc_set _, T.asc_set _, Nat.le_trans (T.set_len _) a2, Nat.le_trans (T.set_len _) b2, fun x hx => a1 x (T.mem_set.mp hx), fun x hx => b1 x (T.mem_set.mp hx)⟩
theorem game_G : ∀ (d : Nat) (n : Int), T.G d (game d n)
  | 0, n => (rfl : T.gm [] [] = T.gm [] [])
  | 1, n => gmOf_G (game_G 0) n
  | d + 2, n => by
    unfold game
    split
    · exact gmOf_G (game_G (d + 1)) n
    · exact (gmOf_G (game_G d) n).up
theorem game_left (d : Nat) (n : Int) (hn : 0 ≤ n) : ∃ d', d' ≤ d ∧ max 0 ((d + 1 : Nat) - 1 - n / 7 % 2 : Int) = (d' : Int) ∧ game (d + 1) n = gmOf (game d') n := by
  have h0 := Int.emod_nonneg (n / 7) (show (2 : Int) ≠ 0 by decide)
  have h1 := Int.emod_lt_of_pos (n / 7) (show (0 : Int) < 2 by decide)
  cases d with
  | zero => exact ⟨0, Nat.le_refl _, by omega, rfl⟩
  | succ d =>
    by_cases c : n / 7 % 2 = 0
    · exact ⟨d + 1, Nat.le_refl _, by omega, by show (if n / 7 % 2 = 0 then _ else _) = _; rw [if_pos c]⟩
    · exact ⟨d, Nat.le_succ _, by omega, by show (if n / 7 % 2 = 0 then _ else _) = _; rw [if_neg c]⟩
def RGame (dd : Nat) (ds : List D) (r : D) : Prop := ∃ (n : Int) (d : Nat), ds = [.int n, .int (d : Int)] ∧ 0 ≤ n ∧ d < dd ∧ r = (game d n).data
/-! ### _law_game -/
abbrev sLawGame : Stmt := topS 17
abbrev nLawGame : List Str := ["_law_number", "_law_deep", "_law_rows", "_law_who", "_law_many", "_law_left", "_law_k"]
theorem scLawGame : FnScope nLawGame ["_law_number", "_law_deep"] (defScope sLawGame) := ⟨rfl, rfl, rfl, by decide +kernel, rfl, by decide +kernel, by decide +kernel⟩
section
variable {P : Program} {w : World} {K : PySem.W.Frag} {mg : Str → Option Value} {base : Heap} {f : Addr} {fd : FuncData} {k j : Nat}
theorem has__law_game1 (B : BI mg) (F : Fun K "_law_game" "_law_game" sLawGame f fd) (b : Binds K fd ["_law_number", "_law_deep"] []) (hm : mg "_law_game" = some (.ref f)) {dd : Nat} (hdd : dd ≤ 20)
    (h__law_drawn : Has P w K mg base k "_law_drawn" (SpR K RDrawn)) (h__law_by : Has P w K mg base k "_law_by" (SpR K RBy)) (h__law_game : Has P w K mg base k "_law_game" (SpR K (RGame dd))) : Has P w K mg base (k + 1) "_law_game" (SpR K (RGame (dd + 1))) := by
  refine has_of F b hm scLawGame (by decide) (fun ds r h => by obtain ⟨_, _, rfl, _⟩ := h; rfl) (fun cdv A outer s H E hr => ⟨_, (pss_cons (ps_if (pt_cmpR (op_eqK K rfl (hu64 hr)) (pv 1) pe_int (nomark _)) (pss_one (ps_ret (pe_tup (pa_cons (pe_tup pa_nil) (pa_cons (pe_tup pa_nil) pa_nil))))) pss_nil)
    (pss_cons (ps_set (i := 2) scLawGame.nd rfl (by first | exact .inl rfl | exact .inr rfl) (pe_lst pa_nil))
    (pss_cons (ps_for PassesOwn.never rfl (pi_tupK K rfl (pe_tup (pa_cons pe_int (pa_cons pe_int pa_nil)))) (pg_name (i := 3) scLawGame.nd rfl (by first | exact .inl rfl | exact .inr rfl)) (pss_cons (ps_set (i := 4) scLawGame.nd rfl (by first | exact .inl rfl | exact .inr rfl) (pe_ix (ix_K K rfl) (pe_tup (pa_cons pe_int (pa_cons pe_int (pa_cons pe_int (pa_cons pe_int pa_nil))))) (pe_op op_mod (pe_h h__law_drawn hr (by omega) (by rfl) (pa_cons (pv 0) (pa_cons (pv 3) pa_nil))) pe_int) (fun _ _ => rfl)))
    (pss_cons (ps_set (i := 5) scLawGame.nd rfl (by first | exact .inl rfl | exact .inr rfl) (pe_callB (call_max2 rfl) (by rfl) B.max boot_max (pa_cons pe_int (pa_cons (pe_op op_sub (pe_op op_sub (pv 1) pe_int) (pe_op op_mod (pe_op op_fdiv (pv 0) pe_int) pe_int)) pa_nil))))
    (pss_one (ps_expr (pe_bmK K rfl (pe_bm PySem.F.plainAttrs_list PySem.F.slot_list_append PySem.F.type_list_append mt_append (pv 2) (pa_cons (pe_lc (own := [("_law_k", 6)]) rfl scLawGame.nd (pi_range1 (by rfl) B.range (pa_cons (pv 4) pa_nil)) (blkOk_by (N := nLawGame) (sc := defScope sLawGame) (by decide +kernel)) (fun _ _ _ _ _ => (pg_name (i := 6) scLawGame.nd rfl (by first | exact .inl rfl | exact .inr rfl))) (fun _ _ _ _ _ => pts_nil) (fun _ _ _ _ _ => (pe_h h__law_game hr (by omega) (by rfl) (pa_cons (pe_h h__law_drawn hr (by omega) (by rfl) (pa_cons (pv 0) (pa_cons (pe_op (op_addK K rfl) (pe_op (op_addK K rfl) pe_int (pe_op (op_mulK K rfl) pe_int (pv 3))) (pv 6)) pa_nil))) (pa_cons (pv 5) pa_nil))))) pa_nil))))))))
    (pss_one (ps_ret (pe_h h__law_by hr (by omega) (by rfl) (pa_cons (pe_ix (ix_K K rfl) (pv 2) pe_int (fun _ _ => rfl)) (pa_cons (pe_ix (ix_K K rfl) (pv 2) pe_int (fun _ _ => rfl)) pa_nil)))))))), fun ds r h => ?_⟩)
  try dsimp only [cxOf, Cx.nox, Cx.wish]
  obtain ⟨n, d, rfl, hn, hd, rfl⟩ := h
  refine (show XD K _ [some (.int n), some (.int (d : Int)), none, none, none, none, none] none _ from ?_)
  refine xd_ifs (b := decide ((d : Int) = 0)) (by (repeat' (first
    | exact ed_var rfl | exact ed_int | exact ed_bl | exact ed_str | exact ed_non
    | exact eds_nil | with_reducible refine' eds_cons ?_ ?_
    | exact rd_addI | exact rd_sub | exact rd_ltI | exact rd_geI | exact rd_gtI | exact rd_le | exact rd_lt | exact rd_eqI | exact rd_neI | exact rd_eqS | exact rd_neS
    | exact rd_mulI (.inr ⟨by decide, by decide⟩) | exact rd_mulI (.inl ⟨by decide, by decide⟩) | exact rd_mod (by decide) | exact rd_div ⟨by decide, by decide⟩
    | exact ud_neg
    | exact et_yes
    | with_reducible refine' ed_op ?_ ?_ ?_ | with_reducible refine' ed_un ?_ ?_ | with_reducible refine' ed_tup ?_ ?_ | with_reducible refine' et_test ?_ | with_reducible refine' et_B ?_ | with_reducible refine ed_notV ?_ | with_reducible refine et_not ?_
    | exact cd_max2 | exact cd_min2 | exact cd_abs | exact cd_lenL | exact cd_lenT | exact cd_tupL | exact cd_tupT
    | exact ed_isi (by assumption) rfl
    | with_reducible refine' ed_cb ?_ ?_ ))) (fun c => ?_) (fun c => ?_)
  · have e : d = 0 := by have := of_decide_eq_true c; omega
    subst e
    refine xd_rets ?_
    show ED K _ _ (T.gm [] []).data
    rw [T.gm_data]
    exact ed_tup (eds_cons (ed_tup eds_nil) (eds_cons (ed_tup eds_nil) eds_nil)) (by simp)
  · have hd0 : d ≠ 0 := by have := of_decide_eq_false c; omega
    obtain ⟨d, rfl⟩ : ∃ e, d = e + 1 := ⟨d - 1, by omega⟩
    obtain ⟨l, hl, el, eg⟩ := game_left d n hn
    rw [eg]
    have bd0 := row_G (game_G l) n 0
    have bd1 := row_G (game_G l) n 1
    have dp : ∀ who : Int, T.depths (rowOf (game l) n who) ≤ 60 := fun who => T.depths_le fun x hx => by
      have := ((row_G (game_G l) n who).1 x hx).depth
      omega
    refine xd_nexts (xd_seq (xd_asgOwn (el_lst eds_nil)) ?_)
    refine xd_seq (xd_forT (items := [.int 0, .int 1]) (fun _ => [some (.int n), some (.int ((d + 1 : Nat) : Int)), none, none, none, none, none]) (fun i => some (2, [PyData.list ((rowOf (game l) n 0).map T.data), PyData.list ((rowOf (game l) n 1).map T.data)].take i))
      (ed_tup (eds_cons ed_int (eds_cons ed_int eds_nil))) (.inr (by rfl)) rfl rfl (fun i q e => by cases e; show (2 : Nat) ≠ 3; decide) (Go.all fun i d' hi => ?_)) ?_
    · obtain ⟨who, rfl, hw, et⟩ : ∃ who : Int, d' = .int who ∧ (who = 0 ∨ who = 1) ∧ [PyData.list ((rowOf (game l) n 0).map T.data), PyData.list ((rowOf (game l) n 1).map T.data)].take (i + 1) = [PyData.list ((rowOf (game l) n 0).map T.data), PyData.list ((rowOf (game l) n 1).map T.data)].take i ++ [.list ((rowOf (game l) n who).map T.data)] := by
        rcases i with _ | _ | i
        · cases hi; exact ⟨0, rfl, .inl rfl, rfl⟩
        · cases hi; exact ⟨1, rfl, .inr rfl, rfl⟩
        · simp at hi
      rw [et]
      have hk : (([PyData.list ((rowOf (game l) n 0).map T.data), PyData.list ((rowOf (game l) n 1).map T.data)] : List D).take i).length ≤ 90000 := by rw [List.length_take]; exact Nat.le_trans (Nat.min_le_right _ _) (by show 2 ≤ 90000; decide)
      generalize ([PyData.list ((rowOf (game l) n 0).map T.data), PyData.list ((rowOf (game l) n 1).map T.data)] : List D).take i = done at hk ⊢
      refine xd_seq (xd_asg (d := .int (many n who : Int)) ?_ (.inr rfl) (fun q e => by cases e; show (2 : Nat) ≠ 4; decide)) (xd_seq (xd_asg (d := .int (l : Int)) ?_ (.inr rfl) (fun q e => by cases e; show (2 : Nat) ≠ 5; decide)) (xd_less (xd_appL (cs := (rowOf (game l) n who).map T.data) ?_ (by simp) hk) (by simp) ?_))
      · have w0 : 0 ≤ who := by rcases hw with h | h <;> omega
        have w1 : who ≤ 1000000 := by rcases hw with h | h <;> omega
        exact ed_op (ed_tup (eds_cons ed_int (eds_cons ed_int (eds_cons ed_int (eds_cons ed_int eds_nil)))) (by simp)) (ed_op (ed_call (eds_cons (ed_var rfl) (eds_cons (ed_var rfl) eds_nil)) ⟨n, who, rfl, w0, w1, rfl⟩) ed_int (rd_mod (by decide))) (rd_ixUT (many_at n who))
      · rw [← el]
        (repeat' (first
    | exact ed_var rfl | exact ed_int | exact ed_bl | exact ed_str | exact ed_non
    | exact eds_nil | with_reducible refine' eds_cons ?_ ?_
    | exact rd_addI | exact rd_sub | exact rd_ltI | exact rd_geI | exact rd_gtI | exact rd_le | exact rd_lt | exact rd_eqI | exact rd_neI | exact rd_eqS | exact rd_neS
    | exact rd_mulI (.inr ⟨by decide, by decide⟩) | exact rd_mulI (.inl ⟨by decide, by decide⟩) | exact rd_mod (by decide) | exact rd_div ⟨by decide, by decide⟩
    | exact ud_neg
    | exact et_yes
    | with_reducible refine' ed_op ?_ ?_ ?_ | with_reducible refine' ed_un ?_ ?_ | with_reducible refine' ed_tup ?_ ?_ | with_reducible refine' et_test ?_ | with_reducible refine' et_B ?_ | with_reducible refine ed_notV ?_ | with_reducible refine et_not ?_
    | exact cd_max2 | exact cd_min2 | exact cd_abs | exact cd_lenL | exact cd_lenT | exact cd_tupL | exact cd_tupT
    | exact ed_isi (by assumption) rfl
    | with_reducible refine' ed_cb ?_ ?_ ))
      · have ml := many_le n who
        have w0 : 0 ≤ who ∧ who ≤ 1 := by rcases hw with h | h <;> omega
        refine el_is (el_mapR1 (n := (many n who : Int)) (fun d => (game l (drawn n (10 + 4 * who + intD d))).data) (eds_cons (ed_var rfl) eds_nil) ⟨by omega, by omega⟩ fun d hd => ?_) (row_map (game l) n who)
        obtain ⟨i, hi, rfl⟩ := mem_rng hd
        refine ed_call (ds := [.int (drawn n (10 + 4 * who + (0 + (i : Int)))), .int (l : Int)]) (eds_cons (ed_call (ds := [.int n, .int (10 + 4 * who + (0 + (i : Int)))]) (eds_cons (ed_var rfl) (eds_cons ?_ eds_nil)) ⟨n, _, rfl, ?_, ?_, rfl⟩) (eds_cons (ed_var rfl) eds_nil)) ⟨_, l, rfl, (drawn_bd _ _).1, by omega, rfl⟩
        · (repeat' (first
    | exact ed_var rfl | exact ed_int | exact ed_bl | exact ed_str | exact ed_non
    | exact eds_nil | with_reducible refine' eds_cons ?_ ?_
    | exact rd_addI | exact rd_sub | exact rd_ltI | exact rd_geI | exact rd_gtI | exact rd_le | exact rd_lt | exact rd_eqI | exact rd_neI | exact rd_eqS | exact rd_neS
    | exact rd_mulI (.inr ⟨by decide, by decide⟩) | exact rd_mulI (.inl ⟨by decide, by decide⟩) | exact rd_mod (by decide) | exact rd_div ⟨by decide, by decide⟩
    | exact ud_neg
    | exact et_yes
    | with_reducible refine' ed_op ?_ ?_ ?_ | with_reducible refine' ed_un ?_ ?_ | with_reducible refine' ed_tup ?_ ?_ | with_reducible refine' et_test ?_ | with_reducible refine' et_B ?_ | with_reducible refine ed_notV ?_ | with_reducible refine et_not ?_
    | exact cd_max2 | exact cd_min2 | exact cd_abs | exact cd_lenL | exact cd_lenT | exact cd_tupL | exact cd_tupT
    | exact ed_isi (by assumption) rfl
    | with_reducible refine' ed_cb ?_ ?_ ))
        · omega
        · have : i < 2 := by simp at hi; omega
          omega
      · intro i d e
        exact set_less (by simp) i d (set_less (by simp) i d (set_less (by simp) i d e))
    · refine xd_ret (ed_call (eds_cons (ed_op (ed_var rfl) ed_int (rd_ixUL (d := .list ((rowOf (game l) n 0).map T.data)) rfl)) (eds_cons (ed_op (ed_var rfl) ed_int (rd_ixUL (d := .list ((rowOf (game l) n 1).map T.data)) rfl)) eds_nil)) ?_)
      exact ⟨_, _, rfl, fun t ht => (bd0.1 t ht).full, fun t ht => (bd1.1 t ht).full, dp 0, dp 1, by omega, by omega, rfl⟩
theorem has__law_game (B : BI mg) (F : Fun K "_law_game" "_law_game" sLawGame f fd) (b : Binds K fd ["_law_number", "_law_deep"] []) (hm : mg "_law_game" = some (.ref f))
    (h__law_drawn : Has P w K mg base k "_law_drawn" (SpR K RDrawn)) (h__law_by : Has P w K mg base k "_law_by" (SpR K RBy)) : ∀ dd : Nat, dd ≤ 20 → Has P w K mg base (k + dd) "_law_game" (SpR K (RGame dd))
  | 0, _ => has_none F b hm fun ds r h => by obtain ⟨_, d, _, _, h, _⟩ := h; omega
  | dd + 1, h => has__law_game1 B F b hm (by omega) (h__law_drawn.mono (Nat.le_add_right k dd)) (h__law_by.mono (Nat.le_add_right k dd)) (has__law_game B F b hm h__law_drawn h__law_by dd (by omega))
end
end LM

set_option Elab.async false
set_option linter.all false
set_option maxRecDepth 100000
set_option maxHeartbeats 4000000
namespace LM
open PySem PySem.Spec PyProof.Rows L2 Evl
/-! what a game is -/
def RRises (ds : List D) (r : D) : Prop := ∃ ts : List T, ds = [.tuple (ts.map T.data)] ∧ T.depths ts ≤ 60 ∧ ts.length ≤ 50000 ∧ r = .bool (ascB ts)
def ltD (x y : D) : D := .bool (T.lt (ofD x) (ofD y))
theorem zipm_zl : ∀ ts : List T, zipm ltD (((ts.map T.data)).take (ts.length - 1)) ((ts.map T.data).drop 1) = (zl ts).map PyData.bool
  | [] => rfl
  | [x] => rfl
  | x :: y :: r => by
    have ih := zipm_zl (y :: r)
    rw [List.map_cons, List.map_cons, zl, List.map_cons]
    show zipm ltD (x.data :: (y.data :: r.map T.data).take r.length) (y.data :: r.map T.data) = _
    rw [zipm]
    congr 1
    · unfold ltD; rw [ofD_data, ofD_data]
def RFits (F : Nat) (ds : List D) (r : D) : Prop := ∃ (d : D) (f : Nat), ds = [d, .int (13 - (f : Int))] ∧ f < F ∧ sz d ≤ 50000 ∧ r = .bool (okG f d)
def RIs (ds : List D) (r : D) : Prop := ∃ d : D, ds = [d] ∧ sz d ≤ 50000 ∧ r = .bool (okG 13 d)
def RLawIs (F : Nat) (ds : List D) (r : D) : Prop := ∃ (d : D) (f : Nat), ds = [d, .int (13 - (f : Int))] ∧ f < F ∧ sz d ≤ 50000 ∧ fitD 60 d ∧ r = .bool (okG f d)
/-- isinstance(x, tuple) -/
def isTup : D → Bool
  | .tuple _ => true
  | _ => false
theorem kb_tup (d : D) : kitB (tyD d) "tuple" = some (isTup d) := by
  rw [kb_tuple]
  cases d <;> rfl
theorem isTup_iff {d : D} (h : isTup d = true) : ∃ ds, d = .tuple ds := by
  cases d with
  | tuple ds => exact ⟨ds, rfl⟩
  | _ => cases h
theorem okG_shape {f : Nat} {d : D} (h : okG f d = true) : ∃ a b, d = .tuple [.tuple a, .tuple b] := by
  cases f with
  | zero => cases h
  | succ f =>
    unfold okG at h
    split at h
    · rename_i a b
      rw [Bool.and_eq_true] at h
      obtain ⟨ls, rfl, _⟩ := okRow_T (okG_T f) h.1
      obtain ⟨rs, rfl, _⟩ := okRow_T (okG_T f) h.2
      exact ⟨_, _, rfl⟩
    · cases h
theorem okG_len {f : Nat} {ds : List D} (h : ds.length ≠ 2) : okG (f + 1) (.tuple ds) = false := by
  unfold okG
  split
  · rename_i a b e
    cases e
    exact absurd rfl h
  · rfl
theorem okG_two (f : Nat) (a b : D) : okG (f + 1) (.tuple [a, b]) = (okRow (okG f) a && okRow (okG f) b) := rfl
theorem len_two {α : Type} {l : List α} (h : l.length = 2) : ∃ a b, l = [a, b] := by
  match l, h with
  | [a, b], _ => exact ⟨a, b, rfl⟩
def okRow' (n : Nat) : D → Bool
  | .tuple gs => gs.all (okG n)
  | _ => false
theorem okRow_le (n : Nat) (d : D) : okRow' n d = false → okRow (okG n) d = false := by
  cases d with
  | tuple gs => intro h; simp only [okRow, okRow'] at h ⊢; rw [h]; rfl
  | _ => intro _; rfl
theorem okRow'_T {n : Nat} {d : D} (h : okRow' n d = true) (hz : sz d ≤ 50000) : ∃ ts : List T, d = .tuple (ts.map T.data) ∧ T.depths ts ≤ 2 * n ∧ ts.length ≤ 50000 ∧ okRow (okG n) d = ascB ts := by
  cases d with
  | tuple gs =>
    simp only [okRow', List.all_eq_true] at h
    have e : gs = (gs.map ofD).map T.data := by
      rw [List.map_map]
      conv => lhs; rw [← List.map_id gs]
      exact List.map_congr_left fun d hx => (okG_T n d (h d hx)).1
    refine ⟨gs.map ofD, by rw [← e], ?_, ?_, ?_⟩
    · refine T.depths_le fun t ht => ?_
      obtain ⟨d, hx, rfl⟩ := List.mem_map.mp ht
      exact (okG_T n d (h d hx)).2
    · have := len_szs gs
      rw [sz] at hz
      rw [List.length_map]; omega
    · show (gs.all (okG n) && ascB (gs.map ofD)) = _
      rw [List.all_eq_true.mpr h, Bool.true_and]
  | _ => cases h
theorem dp_all {K : PySem.W.Frag} (gs : List D) (n : Nat) : CD K (rAll K) [.list (gs.map fun x => .bool (okG n x))] (.bool (okRow' n (.tuple gs))) := by
  have e : okRow' n (.tuple gs) = (gs.map (okG n)).all id := by
    rw [List.all_map]; rfl
  rw [e]
  exact cd_all (by rw [List.map_map]; rfl)
def lenNot2 : D → Bool
  | .tuple ds => !decide ((ds.length : Int) = 2)
  | _ => false
theorem deep_up (x : D) (n : Nat) : [x, PyData.int (13 - ((n + 1 : Nat) : Int) + 1)] = [x, .int (13 - (n : Int))] := by
  rw [show (13 - ((n + 1 : Nat) : Int) + 1) = 13 - (n : Int) by omega]
end LM

set_option Elab.async false
set_option linter.all false
set_option maxRecDepth 100000
set_option maxHeartbeats 4000000
namespace LM
open PySem PySem.Spec PyProof.Rows L2 Evl
/-! things that are no games -/
def odds : List D := [.int 0, .int 1, .none, .str "", .str "[", .bool true, .tuple [], .list [], .tuple [.tuple []], .tuple [.tuple [], .tuple []], .tuple [.tuple [], .tuple [], .tuple []], .tuple [.tuple [.tuple [], .tuple []], .tuple []], .tuple [.tuple [], .list []]]
def odd (n : Int) : D := odds.getD (n % 13).toNat .none
theorem odd_at (n : Int) : atI odds (n % 13) = some (odd n) := by
  have h0 := Int.emod_nonneg n (show (13 : Int) ≠ 0 by decide)
  have h1 := Int.emod_lt_of_pos n (show (0 : Int) < 13 by decide)
  refine atI_z h0 ?_
  unfold odd
  have : (n % 13).toNat < odds.length := by show _ < 13; omega
  rw [List.getD_eq_getElem?_getD, List.getElem?_eq_getElem this]; rfl
theorem odd_mem (n : Int) : odd n ∈ odds := by
  have h0 := Int.emod_nonneg n (show (13 : Int) ≠ 0 by decide)
  have h1 := Int.emod_lt_of_pos n (show (0 : Int) < 13 by decide)
  unfold odd
  have : (n % 13).toNat < odds.length := by show _ < 13; omega
  rw [List.getD_eq_getElem?_getD, List.getElem?_eq_getElem this]
  exact List.getElem_mem this
theorem odds_ok : (odds.all fun d => decide (sz d ≤ 8) && d.canLay0 && decide (d.depth ≤ 4)) = true := by decide +kernel
theorem odd_sz (n : Int) : sz (odd n) ≤ 8 := by
  have := List.all_eq_true.mp odds_ok _ (odd_mem n)
  simp only [Bool.and_eq_true, decide_eq_true_eq] at this
  exact this.1.1
theorem odd_fit (n : Int) : fitD 4 (odd n) := by
  have := List.all_eq_true.mp odds_ok _ (odd_mem n)
  simp only [Bool.and_eq_true, decide_eq_true_eq] at this
  exact ⟨this.1.2, this.2⟩
def oneD : D := .tuple [.tuple [], .tuple []]
def variants (ds : List D) : List D := [.list ds, .tuple (ds.take (ds.length - 1)), .tuple (ds ++ ds.drop (ds.length - 1)), .tuple (ds.drop 1), .tuple ds.reverse, .tuple (List.replicate 2 ds).flatten, .tuple (ds ++ [oneD])]
def spoilT (n : Int) : D → D
  | .tuple ds => if n / 6 % 2 = 0 then (variants ds).getD (n / 12 % 7).toNat .none else odd (n / 6)
  | _ => odd (n / 6)
def spoilt : Nat → Int → D → D
  | 0, n, d => spoilT n d
  | k + 1, n, d => match d with
    | .tuple ds => if ds ≠ [] ∧ 0 < n % 6 then .tuple (ds.take (n / 6 % (ds.length : Int)).toNat ++ [spoilt k (n / 6 / (ds.length : Int)) (ds.getD (n / 6 % (ds.length : Int)).toNat .none)] ++ ds.drop ((n / 6 % (ds.length : Int)).toNat + 1)) else spoilT n d
    | d => spoilT n d
theorem szs_rev : ∀ ds : List D, szs ds.reverse = szs ds
  | [] => rfl
  | d :: ds => by rw [List.reverse_cons, szs_app, szs_rev ds, szs, szs, szs]; omega
theorem variants_ok {ds : List D} {x : D} (h : x ∈ variants ds) : sz x ≤ 2 * sz (.tuple ds) + 20 ∧ ∀ m, fitD m (.tuple ds) → fitD (m + 5) x := by
  have a1 := szs_take ds (ds.length - 1)
  have a2 := szs_drop ds (ds.length - 1)
  have a3 := szs_drop ds 1
  have a4 := szs_rev ds
  have one : sz oneD = 3 := rfl
  have one2 : ∀ m, fitD (m + 2) oneD := fun m => ⟨rfl, by show 2 ≤ m + 2; omega⟩
  have el : ∀ m, fitD m (.tuple ds) → ∀ d ∈ ds, fitD m d := fun m hm d hd => by
    cases m with
    | zero => obtain ⟨_, h2⟩ := hm; simp [PyData.depth] at h2
    | succ m => exact (fit_tup.mp hm d hd).mono (Nat.le_succ m)
  have pack : ∀ es : List D, (∀ m, (∀ d ∈ ds, fitD m d) → ∀ d ∈ es, fitD (m + 4) d) → ∀ m, fitD m (.tuple ds) → fitD (m + 5) (.tuple es) := fun es h m hm => fit_tup.mpr (h m (el m hm))
  simp only [variants, List.mem_cons, List.not_mem_nil, or_false] at h
  rcases h with rfl | rfl | rfl | rfl | rfl | rfl | rfl
  · exact ⟨by simp only [sz]; omega, fun m hm => fit_lst.mpr fun d hd => (el m hm d hd).mono (by omega)⟩
  · exact ⟨by simp only [sz]; omega, pack _ fun m hm d hd => (hm d (List.mem_of_mem_take hd)).mono (by omega)⟩
  · refine ⟨by simp only [sz, szs_app]; omega, pack _ fun m hm d hd => ?_⟩
    rcases List.mem_append.mp hd with hd | hd
    · exact (hm d hd).mono (by omega)
    · exact (hm d (List.mem_of_mem_drop hd)).mono (by omega)
  · exact ⟨by simp only [sz]; omega, pack _ fun m hm d hd => (hm d (List.mem_of_mem_drop hd)).mono (by omega)⟩
  · exact ⟨by simp only [sz]; omega, pack _ fun m hm d hd => (hm d (List.mem_reverse.mp hd)).mono (by omega)⟩
  · have e : (List.replicate 2 ds).flatten = ds ++ ds := by simp
    rw [e]
    refine ⟨by simp only [sz, szs_app]; omega, pack _ fun m hm d hd => ?_⟩
    rcases List.mem_append.mp hd with hd | hd
    · exact (hm d hd).mono (by omega)
    · exact (hm d hd).mono (by omega)
  · refine ⟨by simp only [sz, szs_app, szs, one]; omega, pack _ fun m hm d hd => ?_⟩
    rcases List.mem_append.mp hd with hd | hd
    · exact (hm d hd).mono (by omega)
    · rw [List.mem_singleton.mp hd]; exact (one2 m).mono (by omega)
theorem mod7 (n : Int) : 0 ≤ n % 7 ∧ n % 7 < 7 := ⟨Int.emod_nonneg _ (by decide), Int.emod_lt_of_pos _ (by decide)⟩
theorem variants_at (ds : List D) (n : Int) : atI (variants ds) (n / 12 % 7) = some ((variants ds).getD (n / 12 % 7).toNat .none) := by
  have h := mod7 (n / 12)
  refine atI_z h.1 ?_
  have : (n / 12 % 7).toNat < (variants ds).length := by show _ < 7; omega
  rw [List.getD_eq_getElem?_getD, List.getElem?_eq_getElem this]; rfl
theorem variants_mem (ds : List D) (n : Int) : (variants ds).getD (n / 12 % 7).toNat .none ∈ variants ds := by
  have h := mod7 (n / 12)
  have : (n / 12 % 7).toNat < (variants ds).length := by show _ < 7; omega
  rw [List.getD_eq_getElem?_getD, List.getElem?_eq_getElem this]
  exact List.getElem_mem this
theorem spoilT_ok (n : Int) (d : D) : sz (spoilT n d) ≤ 2 * sz d + 20 ∧ ∀ m, fitD m d → fitD (m + 5) (spoilT n d) := by
  have o1 := odd_sz (n / 6)
  have o2 := odd_fit (n / 6)
  cases d with
  | tuple ds =>
    by_cases h6 : n / 6 % 2 = 0
    · rw [show spoilT n (.tuple ds) = (variants ds).getD (n / 12 % 7).toNat .none from if_pos h6]
      exact variants_ok (variants_mem ds n)
    · rw [show spoilT n (.tuple ds) = odd (n / 6) from if_neg h6]
      exact ⟨by omega, fun m _ => o2.mono (by omega)⟩
  | _ => exact ⟨by show sz (odd (n / 6)) ≤ _; omega, fun m _ => o2.mono (by omega)⟩
theorem mod_len {ds : List D} (h : ds ≠ []) (n : Int) : 0 ≤ n / 6 % (ds.length : Int) ∧ (n / 6 % (ds.length : Int)).toNat < ds.length := by
  have hl : 0 < ds.length := List.length_pos_iff.mpr h
  have h0 := Int.emod_nonneg (n / 6) (show (ds.length : Int) ≠ 0 by omega)
  have h1 := Int.emod_lt_of_pos (n / 6) (show (0 : Int) < (ds.length : Int) by omega)
  exact ⟨h0, by omega⟩
theorem getD_mem {ds : List D} {i : Nat} (h : i < ds.length) : ds.getD i .none ∈ ds := by
  rw [List.getD_eq_getElem?_getD, List.getElem?_eq_getElem h]; exact List.getElem_mem h
theorem getD_get {ds : List D} {i : Nat} (h : i < ds.length) : ds[i]? = some (ds.getD i .none) := by
  rw [List.getD_eq_getElem?_getD, List.getElem?_eq_getElem h]; rfl
theorem szs_at {ds : List D} {i : Nat} (h : i < ds.length) : szs ds = szs (ds.take i) + sz (ds.getD i .none) + szs (ds.drop (i + 1)) := by
  have e : ds = ds.take i ++ (ds.getD i .none :: ds.drop (i + 1)) := by
    have e2 : ds.getD i .none = ds[i] := by rw [List.getD_eq_getElem?_getD, List.getElem?_eq_getElem h]; rfl
    rw [e2, ← List.drop_eq_getElem_cons h, List.take_append_drop]
  conv => lhs; rw [e]
  rw [szs_app, szs]; omega
theorem spoilt_ok : ∀ (k : Nat) (n : Int) (d : D), sz (spoilt k n d) ≤ 2 * sz d + 20 ∧ ∀ m, fitD m d → fitD (m + 5) (spoilt k n d)
  | 0, n, d => spoilT_ok n d
  | k + 1, n, d => by
    unfold spoilt
    split
    · rename_i ds
      split
      · rename_i c
        obtain ⟨h0, hl⟩ := mod_len c.1 n
        generalize (n / 6 % (ds.length : Int)).toNat = i at hl ⊢
        obtain ⟨i1, i2⟩ := spoilt_ok k (n / 6 / (ds.length : Int)) (ds.getD i .none)
        have e := szs_at hl
        refine ⟨?_, fun m hm => ?_⟩
        · simp only [sz, szs_app, szs]; omega
        · cases m with
          | zero => obtain ⟨_, h2⟩ := hm; simp [PyData.depth] at h2
          | succ m =>
            have el := fit_tup.mp hm
            refine fit_tup.mpr fun d hd => ?_
            rcases List.mem_append.mp hd with hd | hd
            · rcases List.mem_append.mp hd with hd | hd
              · exact (el d (List.mem_of_mem_take hd)).mono (by omega)
              · rw [List.mem_singleton.mp hd]; exact i2 m (el _ (getD_mem hl))
            · exact (el d (List.mem_of_mem_drop hd)).mono (by omega)
      · exact spoilT_ok n _
    · exact spoilT_ok n d
def ROdd (ds : List D) (r : D) : Prop := ∃ n : Int, ds = [.int n] ∧ r = odd n
def RSpoilt (F : Nat) (ds : List D) (r : D) : Prop := ∃ (d : D) (n : Int) (k : Nat), ds = [d, .int n, .int (k : Int)] ∧ k < F ∧ sz d ≤ 900 ∧ r = spoilt k n d
/-! how long a game lasts -/
def mx (l : List Int) : Int := l.foldr max 0
theorem mx_mem : ∀ l : List Int, mx l ∈ (0 : Int) :: l
  | [] => List.mem_cons_self
  | x :: l => by
    show max x (mx l) ∈ _
    rcases Int.le_total x (mx l) with h | h
    · rw [Int.max_eq_right h]
      rcases List.mem_cons.mp (mx_mem l) with e | e
      · rw [e]; exact List.mem_cons_self
      · exact List.mem_cons_of_mem _ (List.mem_cons_of_mem _ e)
    · rw [Int.max_eq_left h]; exact List.mem_cons_of_mem _ List.mem_cons_self
theorem mx_le : ∀ (l : List Int), 0 ≤ mx l ∧ ∀ y ∈ l, y ≤ mx l
  | [] => ⟨Int.le_refl _, by simp⟩
  | x :: l => by
    obtain ⟨h1, h2⟩ := mx_le l
    have e : mx (x :: l) = max x (mx l) := rfl
    rw [e]
    refine ⟨by omega, fun y hy => ?_⟩
    rcases List.mem_cons.mp hy with z | z
    · rw [z]; omega
    · have := h2 y z; omega
def lastF : Nat → D → Int
  | 0, _ => 0
  | f + 1, d => match d with
    | .tuple [.tuple a, .tuple b] => mx ((a ++ b).map fun x => 1 + lastF f x)
    | _ => 0
def RLast (F : Nat) (ds : List D) (r : D) : Prop := ∃ (d : D) (f : Nat), ds = [d] ∧ f < F ∧ okG f d = true ∧ sz d ≤ 50000 ∧ r = .int (lastF f d)
theorem okG_row {n : Nat} {a b : List D} (h : okG (n + 1) (.tuple [.tuple a, .tuple b]) = true) : (∀ x ∈ a, okG n x = true) ∧ ∀ x ∈ b, okG n x = true := by
  rw [okG_two] at h
  simp only [okRow, Bool.and_eq_true, List.all_eq_true] at h
  exact ⟨h.1.1, h.2.1⟩
def RGameBy (ds : List D) (r : D) : Prop := ∃ (ls rs : List T) (a b : D), ds = [a, b] ∧ (a = .list (ls.map T.data) ∨ a = .tuple (ls.map T.data)) ∧ (b = .list (rs.map T.data) ∨ b = .tuple (rs.map T.data)) ∧ (∀ t ∈ ls, full t = true) ∧ (∀ t ∈ rs, full t = true) ∧ T.depths ls ≤ 8 ∧ T.depths rs ≤ 8 ∧ ls.length < 64 ∧ rs.length < 64 ∧ r = (T.gm (T.set ls) (T.set rs)).data
/-! how large a drawn game is; that it is a game -/
def bnd : Nat → Nat
  | 0 => 3
  | 1 => 9
  | m + 2 => 3 + 4 * bnd (m + 1)
theorem szs_le {k : Nat} : ∀ {ds : List D}, (∀ d ∈ ds, sz d ≤ k) → szs ds ≤ k * ds.length
  | [], _ => by simp [szs]
  | d :: ds, h => by
    have h1 := h d List.mem_cons_self
    have h2 := szs_le fun x hx => h x (List.mem_cons_of_mem _ hx)
    rw [szs, List.length_cons, Nat.mul_succ]; omega
theorem gm_sz (ls rs : List T) : sz (T.gm ls rs).data = szs (ls.map T.data) + szs (rs.map T.data) + 3 := by
  rw [T.gm_data]
  simp only [sz, szs]
  omega
theorem one_row {l : List T} {c : T} (h : T.Asc l) (e : ∀ x ∈ l, x = c) : l.length ≤ 1 := by
  match l, h with
  | [], _ => exact Nat.zero_le _
  | [x], _ => exact Nat.le_refl _
  | x :: y :: r, h =>
    have n := h.nodup
    rw [e x List.mem_cons_self, e y (List.mem_cons_of_mem _ List.mem_cons_self)] at n
    simp at n
theorem row_sz {k : Nat} {ls : List T} {n : Nat} (h : ∀ x ∈ ls, sz x.data ≤ k) (hl : ls.length ≤ n) : szs (ls.map T.data) ≤ k * n := by
  have h1 : szs (ls.map T.data) ≤ k * (ls.map T.data).length := szs_le fun d hd => by
    obtain ⟨x, hx, rfl⟩ := List.mem_map.mp hd
    exact h x hx
  rw [List.length_map] at h1
  exact Nat.le_trans h1 (Nat.mul_le_mul_left k hl)
theorem T.G.sz : ∀ {m : Nat} {t : T}, T.G m t → LM.sz t.data ≤ bnd m
  | 0, t, h => by
    rw [show t = T.gm [] [] from h, gm_sz]; simp [szs, bnd]
  | 1, t, h => by
    obtain ⟨ls, rs, rfl, a, b, _, _, h1, h2⟩ := h
    have z : LM.sz (T.gm [] []).data = 3 := by rw [gm_sz]; simp [szs]
    have l1 := row_sz (k := 3) (fun x hx => by rw [show x = T.gm [] [] from h1 x hx, z]; exact Nat.le_refl _) (one_row a h1)
    have l2 := row_sz (k := 3) (fun x hx => by rw [show x = T.gm [] [] from h2 x hx, z]; exact Nat.le_refl _) (one_row b h2)
    rw [gm_sz]
    show _ ≤ 9
    omega
  | m + 2, t, h => by
    obtain ⟨ls, rs, rfl, _, _, l1, l2, h1, h2⟩ := h
    have a := row_sz (fun x hx => T.G.sz (h1 x hx)) l1
    have b := row_sz (fun x hx => T.G.sz (h2 x hx)) l2
    rw [gm_sz, bnd]
    omega
theorem okG_gm {n : Nat} {ls rs : List T} (a : T.Asc ls) (b : T.Asc rs) (h1 : ∀ x ∈ ls, okG n x.data = true) (h2 : ∀ x ∈ rs, okG n x.data = true) : okG (n + 1) (T.gm ls rs).data = true := by
  rw [T.gm_data, okG_two]
  have row : ∀ l : List T, T.Asc l → (∀ x ∈ l, okG n x.data = true) → okRow (okG n) (.tuple (l.map T.data)) = true := fun l a h => by
    show ((l.map T.data).all (okG n) && ascB ((l.map T.data).map ofD)) = true
    rw [ofDs_map, Bool.and_eq_true, List.all_eq_true]
    exact ⟨fun d hd => by obtain ⟨x, hx, rfl⟩ := List.mem_map.mp hd; exact h x hx, (ascB_iff l).mpr a⟩
  rw [row ls a h1, row rs b h2]; rfl
theorem T.G.ok : ∀ {m : Nat} {t : T} {f : Nat}, T.G m t → m < f → okG f t.data = true
  | 0, t, f, h, hf => by
    rw [show t = T.gm [] [] from h]
    obtain ⟨g, rfl⟩ : ∃ g, f = g + 1 := ⟨f - 1, by omega⟩
    exact okG_gm List.Pairwise.nil List.Pairwise.nil (by simp) (by simp)
  | m + 1, t, f, h, hf => by
    obtain ⟨ls, rs, rfl, a, b, _, _, h1, h2⟩ := h
    obtain ⟨g, rfl⟩ : ∃ g, f = g + 1 := ⟨f - 1, by omega⟩
    exact okG_gm a b (fun x hx => T.G.ok (h1 x hx) (by omega)) (fun x hx => T.G.ok (h2 x hx) (by omega))
/-- a thing wrapped over and over -/
def wrapN (d : D) : Nat → D
  | 0 => d
  | i + 1 => if i % 2 = 0 then .tuple [.tuple [wrapN d i], .tuple []] else .tuple [.tuple [], .tuple [wrapN d i]]
theorem wrap_sz (d : D) : ∀ i, sz (wrapN d i) = sz d + 3 * i
  | 0 => rfl
  | i + 1 => by
    have ih := wrap_sz d i
    unfold wrapN
    split <;> simp only [sz, szs] <;> omega
theorem wrap_fit {m : Nat} {d : D} (h : fitD m d) : ∀ i, fitD (m + 2 * i + 1) (wrapN d i)
  | 0 => h.mono (by omega)
  | i + 1 => by
    have ih := wrap_fit h i
    have e0 : ∀ n, fitD (n + 1) (.tuple []) := fun n => fit_tup.mpr fun d hd => by cases hd
    have e1 : fitD (m + 2 * (i + 1)) (.tuple [wrapN d i]) := by
      rw [show m + 2 * (i + 1) = (m + 2 * i + 1) + 1 by omega]
      exact fit_tup.mpr fun d hd => by rw [List.mem_singleton.mp hd]; exact ih
    have e2 : fitD (m + 2 * (i + 1)) (.tuple []) := by
      rw [show m + 2 * (i + 1) = (m + 2 * i + 1) + 1 by omega]
      exact e0 _
    unfold wrapN
    split
    · refine fit_tup.mpr fun x hx => ?_
      rcases List.mem_cons.mp hx with e | hx
      · rw [e]; exact e1
      · rw [List.mem_singleton.mp hx]; exact e2
    · refine fit_tup.mpr fun x hx => ?_
      rcases List.mem_cons.mp hx with e | hx
      · rw [e]; exact e2
      · rw [List.mem_singleton.mp hx]; exact e1
theorem wrap_at (d : D) (i : Nat) : atI [PyData.tuple [.tuple [wrapN d i], .tuple []], .tuple [.tuple [], .tuple [wrapN d i]]] ((0 + (i : Int)) % 2) = some (wrapN d (i + 1)) := by
  have h0 := Int.emod_nonneg (0 + (i : Int)) (show (2 : Int) ≠ 0 by decide)
  have h1 := Int.emod_lt_of_pos (0 + (i : Int)) (show (0 : Int) < 2 by decide)
  show _ = some (if i % 2 = 0 then _ else _)
  by_cases c : i % 2 = 0
  · have e : (0 + (i : Int)) % 2 = 0 := by omega
    rw [if_pos c, e]; rfl
  · have e : (0 + (i : Int)) % 2 = 1 := by omega
    rw [if_neg c, e]; rfl
theorem xd_seqE {K : PySem.W.Frag} {ρ : Rho} {ω ω' : Om} {t u : TS} {o : Out} {α : Type} {p : α → Prop} {g : α → Rho} (h : ∃ d, p d ∧ XD K t ρ ω (.nx (g d) ω')) (k : ∀ d, p d → XD K u (g d) ω' o) : XD K (tSeq t u) ρ ω o := by
  obtain ⟨d, h1, h2⟩ := h
  exact xd_seq h2 (k d h1)
def RLaw (ds : List D) (r : D) : Prop := ∃ ns : List Int, ds = [.list (ns.map PyData.int)] ∧ r = .bool true
theorem rng4 (g : Int → D) : (rngD 0 (4 : Int).toNat).map (fun d => g (4 + intD d)) = [g 4, g 5, g 6, g 7] := rfl
end LM

set_option Elab.async false
set_option linter.all false
set_option maxRecDepth 100000
set_option maxHeartbeats 4000000
namespace LM
open PySem PySem.Spec PyProof.Rows L2 Evl
/-! ### matches -/
def mf (rs mv gn : List D) : List (Str × SV) := [("rows", .d (.tuple rs)), ("made", .d (.tuple mv)), ("gone", .d (.tuple gn))]
theorem ne_rm : (("rows" : Str) == "made") = false := by decide +kernel
theorem ne_mr : (("made" : Str) == "rows") = false := by decide +kernel
theorem ne_gr : (("gone" : Str) == "rows") = false := by decide +kernel
theorem ne_gm : (("gone" : Str) == "made") = false := by decide +kernel
theorem lk_rows {rs mv gn : List D} : (mf rs mv gn).lookup ("rows" : Str) = some (SV.d (.tuple rs)) := by
  unfold mf
  rw [List.lookup_cons]
  simp
theorem lk_made {rs mv gn : List D} : (mf rs mv gn).lookup ("made" : Str) = some (SV.d (.tuple mv)) := by
  unfold mf
  rw [List.lookup_cons, ne_mr, List.lookup_cons]
  simp
theorem lk_gone {rs mv gn : List D} : (mf rs mv gn).lookup ("gone" : Str) = some (SV.d (.tuple gn)) := by
  unfold mf
  rw [List.lookup_cons, ne_gr, List.lookup_cons, ne_gm, List.lookup_cons]
  simp
theorem lk_no {rs mv gn : List D} {m : Str} (h1 : (m == "rows") = false) (h2 : (m == "made") = false) (h3 : (m == "gone") = false) : (mf rs mv gn).lookup m = none := by
  unfold mf
  rw [List.lookup_cons, h1, List.lookup_cons, h2, List.lookup_cons, h3]
  rfl
theorem nq {a b : Str} (h : (a == b) = false) : ¬ a = b := fun e => by rw [e] at h; simp at h
theorem putS_nil {f : Str} {x : SV} : putS f x [] = [(f, x)] := rfl
theorem putS_hit {f : Str} {x y : SV} {ps : List (Str × SV)} : putS f x ((f, y) :: ps) = (f, x) :: ps := if_pos rfl
theorem putS_miss {f g : Str} {x y : SV} {ps : List (Str × SV)} (h : (g == f) = false) : putS f x ((g, y) :: ps) = (g, y) :: putS f x ps := if_neg (nq h)
theorem ne_rg : (("rows" : Str) == "gone") = false := by decide +kernel
theorem ne_mg : (("made" : Str) == "gone") = false := by decide +kernel
theorem put_rows {rs mv gn xs : List D} : putS "rows" (.d (.tuple xs)) (mf rs mv gn) = mf xs mv gn := putS_hit
theorem put_made {rs mv gn xs : List D} : putS "made" (.d (.tuple xs)) (mf rs mv gn) = mf rs xs gn := by
  unfold mf
  rw [putS_miss ne_rm, putS_hit]
theorem put_gone {rs mv gn xs : List D} : putS "gone" (.d (.tuple xs)) (mf rs mv gn) = mf rs mv xs := by
  unfold mf
  rw [putS_miss ne_rg, putS_miss ne_mg, putS_hit]
theorem put_init {x y z : SV} : putS "gone" z (putS "made" y (putS "rows" x [])) = ([("rows", x), ("made", y), ("gone", z)] : List (Str × SV)) := by
  rw [putS_nil, putS_miss ne_rm, putS_nil, putS_miss ne_rg, putS_miss ne_mg, putS_nil]
structure MFacts (K : PySem.W.Frag) (C : Addr) : Prop where
  cl : Cls K C
  nR : NoAttr K C "rows"
  nM : NoAttr K C "made"
  nG : NoAttr K C "gone"
def rowD (d : D) (w : Int) : D := .tuple [d, .int w]
def optD (d : D) (w : Int) : List D := match d with
  | .tuple [.tuple a, .tuple b] => if w = 0 then a else b
  | _ => []
theorem opt_at {f : Nat} {d : D} {w : Int} (h : okG f d = true) (hw : w = 0 ∨ w = 1) : ∃ l, d = .tuple l ∧ atI l w = some (.tuple (optD d w)) := by
  obtain ⟨a, b, rfl⟩ := okG_shape h
  rcases hw with rfl | rfl <;> exact ⟨_, rfl, rfl⟩
theorem opt_ok {f : Nat} {d : D} {w : Int} (h : okG (f + 1) d = true) : ∀ x ∈ optD d w, okG f x = true := fun x hx => by
  obtain ⟨a, b, rfl⟩ := okG_shape h
  obtain ⟨oa, ob⟩ := okG_row h
  unfold optD at hx
  dsimp only at hx
  split at hx
  · exact oa x hx
  · exact ob x hx
theorem opt_sz {f : Nat} {d : D} {w : Int} (h : okG f d = true) : szs (optD d w) ≤ sz d := by
  obtain ⟨a, b, rfl⟩ := okG_shape h
  simp only [optD, sz, szs]
  split <;> omega
theorem ok_fit {f : Nat} {d : D} (h : okG f d = true) : fitD (2 * f) d := by
  obtain ⟨e, hd⟩ := okG_T f d h
  rw [e]
  exact fit_T hd
theorem fits_opt {f : Nat} {d : D} {w : Int} (h : okG (f + 1) d = true) : fitD (2 * f + 1) (.tuple (optD d w)) := fit_tup.mpr fun x hx => ok_fit (opt_ok h x hx)
theorem w_turn {w : Int} (h : w = 0 ∨ w = 1) : 1 - w = 0 ∨ 1 - w = 1 := by omega
/-- a play's moves as data -/
abbrev intsD (ks : List Int) : List D := ks.map PyData.int
def RMInit (C : Addr) (xs : List SV) (μ : Mu) (r : SV) (μ' : Mu) : Prop := ∃ d w, xs = [.o 0, .d d, .d w] ∧ μ = [.ins C []] ∧ r = .d .none ∧ μ' = [.ins C (mf [.tuple [d, w]] [] [])]
def RMStand (C : Addr) (xs : List SV) (μ : Mu) (r : SV) (μ' : Mu) : Prop := ∃ rs row mv gn, xs = [.o 0] ∧ μ = [.ins C (mf (rs ++ [row]) mv gn)] ∧ r = .d row ∧ μ' = μ
def RMMoves (C : Addr) (xs : List SV) (μ : Mu) (r : SV) (μ' : Mu) : Prop := ∃ rs mv gn, xs = [.o 0] ∧ μ = [.ins C (mf rs mv gn)] ∧ r = .d (.tuple mv) ∧ μ' = μ
def RMTally (C : Addr) (xs : List SV) (μ : Mu) (r : SV) (μ' : Mu) : Prop := ∃ rs mv gn, xs = [.o 0] ∧ μ = [.ins C (mf rs mv gn)] ∧ r = .d (.tuple [.int (mv.length : Int), .int (gn.length : Int)]) ∧ μ' = μ
def RMOver (C : Addr) (xs : List SV) (μ : Mu) (r : SV) (μ' : Mu) : Prop := ∃ rs d w f mv gn, xs = [.o 0] ∧ μ = [.ins C (mf (rs ++ [rowD d w]) mv gn)] ∧ okG (f + 1) d = true ∧ f ≤ 20 ∧ (w = 0 ∨ w = 1) ∧ r = .d (.bool (optD d w).isEmpty) ∧ μ' = μ
def RMMove (C : Addr) (xs : List SV) (μ : Mu) (r : SV) (μ' : Mu) : Prop := ∃ rs d w f mv gn, ∃ (j : Nat) (e : D), xs = [.o 0, .d (.int (j : Int))] ∧ μ = [.ins C (mf (rs ++ [rowD d w]) mv gn)] ∧ okG (f + 1) d = true ∧ sz d ≤ 50000 ∧ (w = 0 ∨ w = 1) ∧ (optD d w)[j]? = some e ∧ rs.length ≤ 1000 ∧ mv.length ≤ 1000 ∧
  r = .d e ∧ μ' = [.ins C (mf (rs ++ [rowD d w] ++ [rowD e (1 - w)]) (mv ++ [.int (j : Int)]) [])]
def RMBack (C : Addr) (xs : List SV) (μ : Mu) (r : SV) (μ' : Mu) : Prop := ∃ rs row gn, ∃ (ks : List Int) (k : Int), xs = [.o 0] ∧ μ = [.ins C (mf (rs ++ [row]) (intsD ks ++ [.int k]) gn)] ∧ ks.length ≤ 1000 ∧ gn.length ≤ 1000 ∧
  r = .d (.int k) ∧ μ' = [.ins C (mf rs (intsD ks) (gn ++ [.tuple [.int k, row]]))]
def RMForth (C : Addr) (xs : List SV) (μ : Mu) (r : SV) (μ' : Mu) : Prop := ∃ rs row mv gn, ∃ k : Int, xs = [.o 0] ∧ μ = [.ins C (mf rs mv (gn ++ [.tuple [.int k, row]]))] ∧ (∀ g ∈ gn, fitD 40 g) ∧ fitD 40 row ∧ rs.length ≤ 1000 ∧ mv.length ≤ 1000 ∧
  r = .d (.int k) ∧ μ' = [.ins C (mf (rs ++ [row]) (mv ++ [.int k]) gn)]
def RMTwin (C : Addr) (xs : List SV) (μ : Mu) (r : SV) (μ' : Mu) : Prop := ∃ d w rs mv gn, xs = [.o 0] ∧ μ = [.ins C (mf (.tuple [d, w] :: rs) mv gn)] ∧ r = .o 1 ∧ μ' = [.ins C (mf (.tuple [d, w] :: rs) mv gn), .ins C (mf (.tuple [d, w] :: rs) mv gn)]
/-- what a law sees of a match -/
def RMSeen (C : Addr) (xs : List SV) (μ : Mu) (r : SV) (μ' : Mu) : Prop := ∃ rs d w f mv gn, xs = [.o 0] ∧ μ = [.ins C (mf (rs ++ [rowD d w]) mv gn)] ∧ okG (f + 1) d = true ∧ f ≤ 20 ∧ (w = 0 ∨ w = 1) ∧
  r = .d (.tuple [rowD d w, .tuple mv, .tuple [.int (mv.length : Int), .int (gn.length : Int)], .bool (optD d w).isEmpty]) ∧ μ' = μ
theorem seen1 {μ : Mu} {m : MO} (h : μ[0]? = some m) (c : renM [0] μ.length m = m) (hc : clM 1 m = true) : seen [0] μ [m] := by
  refine ⟨rfl, fun j m' hj => ?_⟩
  cases j with
  | succ j => simp at hj
  | zero =>
    cases hj
    rw [c]
    refine ⟨h, ?_⟩
    show (([m] : Mu).take 1).all (clM 1) = true
    simp [hc]
theorem seenN {μ : Mu} {m : MO} (n : Nat) (h : μ[n]? = some m) (c : renM [n] μ.length m = m) (hc : clM 1 m = true) : seen [n] μ [m] := by
  refine ⟨rfl, fun j m' hj => ?_⟩
  cases j with
  | succ j => simp at hj
  | zero =>
    cases hj
    rw [c]
    refine ⟨h, ?_⟩
    show (([m] : Mu).take 1).all (clM 1) = true
    simp [hc]
section
variable {K : PySem.W.Frag} {ρ : Rx} {μ : Mu} {C : Addr} {m : Str} {rs mv gn : List D} {R : List SV → Mu → SV → Mu → Prop} {d r : D} {rs' mv' gn' : List D} {i n : Nat} {ta : TA} {ds : List D}
/-- a method of the match that slot i holds (cell n) -/
theorem ex_mm (hi : ρ[i]? = some (some (.o n))) (hm : μ[n]? = some (.ins C (mf rs mv gn))) (h1 : (m == "rows") = false) (h2 : (m == "made") = false) (h3 : (m == "gone") = false) (ha : EXs K ta ρ μ (ds.map .d) μ)
    (hr : R (.o 0 :: ds.map .d) [.ins C (mf rs mv gn)] (.d r) [.ins C (mf rs' mv' gn')]) : EX K (tMeth C m (SpM K R) [] E0 (tVar i) ta) ρ μ (.d r) (μ.set n (.ins C (mf rs' mv' gn'))) := by
  have hn : n < μ.length := (List.getElem?_eq_some_iff.mp hm).1
  have e1 : (ds.map SV.d).map (renS [n] μ.length) = ds.map SV.d := by
    rw [List.map_map]
    exact List.map_congr_left fun _ _ => rfl
  have h := ex_methM (K := K) (E := E0) (x := .o 0) (xs := ds.map .d) [n] (ex_var hi) hm (lk_no (rs := rs) (mv := mv) (gn := gn) h1 h2 h3) rfl (by rw [e1]; exact ha) (by simp) (by simpa using hn) (seenN n hm rfl rfl) (fun y hy => by
    rcases List.mem_cons.mp hy with rfl | hy
    · exact Nat.zero_lt_one
    · obtain ⟨z, _, rfl⟩ := List.mem_map.mp hy
      exact True.intro) hr
  refine ex_mu h ?_
  unfold back
  have e2 : (([MO.ins C (mf rs' mv' gn')] : Mu).drop ([n] : List Nat).length).map (renM [n] μ.length) = [] := rfl
  rw [e2, List.append_nil]
  refine List.ext_getElem? fun k => ?_
  rw [List.getElem?_set]
  by_cases hk : k < μ.length
  · rw [List.getElem?_map, List.getElem?_range hk]
    simp only [Option.map_some]
    by_cases e : n = k
    · subst e
      rw [if_pos rfl, if_pos hk]
      have : posN n [n] = some 0 := by unfold posN; rw [if_pos rfl]
      rw [this]
      rfl
    · rw [if_neg e]
      have : posN k [n] = none := by unfold posN; rw [if_neg e]; rfl
      rw [this]
      show some (μ.getD k (.lst [])) = μ[k]?
      rw [List.getD_eq_getElem?_getD, List.getElem?_eq_getElem hk]; rfl
  · rw [List.getElem?_eq_none (by rw [List.length_map, List.length_range]; omega), if_neg (by omega), List.getElem?_eq_none (by omega)]
end
/-! ### Match___init__ -/
abbrev sMatchInit : Stmt := inClass (topS 7) 0
abbrev nMatchInit : List Str := ["self", "game", "who"]
theorem scMatchInit : FnScope nMatchInit ["self", "game", "who"] (defScope sMatchInit) := ⟨rfl, rfl, rfl, by decide +kernel, rfl, by decide +kernel, by decide +kernel⟩
section
variable {P : Program} {w : World} {K : PySem.W.Frag} {mg : Str → Option Value} {base : Heap} {f C : Addr} {fd : FuncData} {k j : Nat}
theorem fn_Match_init (B : BI mg) (T : MFacts K C) (F : Fun K "__init__" "Match.__init__" sMatchInit f fd) : FnOk P w K mg base CX0 (k + 1) f fd ["self", "game", "who"] (SpM K (RMInit C)) := by
  refine fn_ofM F scMatchInit (by decide) (fun xs μ r μ' h => by obtain ⟨_, _, rfl, _⟩ := h; rfl) (fun cdv A outer s H E hr => ⟨_, (pss_cons (ps_fldK K rfl (pv 0) (pe_tup (pa_cons (pe_tup (pa_cons (pv 1) (pa_cons (pv 2) pa_nil))) pa_nil)) (by rfl))
    (pss_cons (ps_fldK K rfl (pv 0) (pe_tup pa_nil) (by rfl))
    (pss_one (ps_fldK K rfl (pv 0) (pe_tup pa_nil) (by rfl))))), fun xs μ r μ' h => ?_⟩)
  try dsimp only [cxOf, Cx.nox, Cx.wish]
  obtain ⟨d, w', rfl, rfl, rfl, rfl⟩ := h
  refine .inr ⟨rfl, [some (.o 0), some (.d d), some (.d w')], ?_⟩
  have e := put_init (x := .d (.tuple [.tuple [d, w']])) (y := .d (.tuple [])) (z := .d (.tuple []))
  refine xm_out (xm_seq (xm_fld (n := 0) (ex_pure (d := .tuple [.tuple [d, w']]) (ed_tup (eds_cons (ed_tup (eds_cons (ed_var rfl) (eds_cons (ed_var rfl) eds_nil)) (by simp)) eds_nil) (by simp))) rfl rfl T.cl T.nR) (xm_seq (xm_fld (n := 0) (ex_pure (d := .tuple []) (ed_tup eds_nil)) rfl rfl T.cl T.nM (by show 1 < 1000; decide)) (xm_fld (n := 0) (ex_pure (d := .tuple []) (ed_tup eds_nil)) rfl rfl T.cl T.nG ?_))) ?_
  · rw [putS_nil, putS_miss ne_rm, putS_nil]
    show 2 < 1000
    decide
  · show OutX.nx _ [.ins C (putS "gone" _ (putS "made" _ (putS "rows" _ [])))] = _
    rw [e]
    rfl
end
/-! ### Match_standing -/
abbrev sMatchStanding : Stmt := inClass (topS 7) 1
abbrev nMatchStanding : List Str := ["self"]
theorem scMatchStanding : FnScope nMatchStanding ["self"] (defScope sMatchStanding) := ⟨rfl, rfl, rfl, by decide +kernel, rfl, by decide +kernel, by decide +kernel⟩
section
variable {P : Program} {w : World} {K : PySem.W.Frag} {mg : Str → Option Value} {base : Heap} {f C : Addr} {fd : FuncData} {k j : Nat}
theorem fn_Match_standing (B : BI mg) (T : MFacts K C) (F : Fun K "standing" "Match.standing" sMatchStanding f fd) : FnOk P w K mg base CX0 (k + 1) f fd ["self"] (SpM K (RMStand C)) := by
  refine fn_ofM F scMatchStanding (by decide) (fun xs μ r μ' h => by obtain ⟨_, _, _, _, rfl, _⟩ := h; rfl) (fun cdv A outer s H E hr => ⟨_, (pss_one (ps_ret (pe_ix (ix_K K rfl) (pe_fldK K rfl (pv 0) (by rfl)) (pe_un un_neg pe_int) (fun _ _ => rfl)))), fun xs μ r μ' h => ?_⟩)
  try dsimp only [cxOf, Cx.nox, Cx.wish]
  obtain ⟨rs, row, mv, gn, rfl, rfl, rfl, rfl⟩ := h
  exact .inl (xm_ret (ex_op (ex_self (n := 0) rfl rfl T.cl T.nR lk_rows) (ex_pure (d := .int (-1)) (ed_un ed_int ud_neg)) (rd_ixUT atI_last)))
end
/-! ### Match_moves -/
abbrev sMatchMoves : Stmt := inClass (topS 7) 6
abbrev nMatchMoves : List Str := ["self"]
theorem scMatchMoves : FnScope nMatchMoves ["self"] (defScope sMatchMoves) := ⟨rfl, rfl, rfl, by decide +kernel, rfl, by decide +kernel, by decide +kernel⟩
section
variable {P : Program} {w : World} {K : PySem.W.Frag} {mg : Str → Option Value} {base : Heap} {f C : Addr} {fd : FuncData} {k j : Nat}
theorem fn_Match_moves (B : BI mg) (T : MFacts K C) (F : Fun K "moves" "Match.moves" sMatchMoves f fd) : FnOk P w K mg base CX0 (k + 1) f fd ["self"] (SpM K (RMMoves C)) := by
  refine fn_ofM F scMatchMoves (by decide) (fun xs μ r μ' h => by obtain ⟨_, _, _, rfl, _⟩ := h; rfl) (fun cdv A outer s H E hr => ⟨_, (pss_one (ps_ret (pe_fldK K rfl (pv 0) (by rfl)))), fun xs μ r μ' h => ?_⟩)
  try dsimp only [cxOf, Cx.nox, Cx.wish]
  obtain ⟨rs, mv, gn, rfl, rfl, rfl, rfl⟩ := h
  exact .inl (xm_ret (ex_self (n := 0) rfl rfl T.cl T.nM lk_made))
end
/-! ### Match_tally -/
abbrev sMatchTally : Stmt := inClass (topS 7) 9
abbrev nMatchTally : List Str := ["self"]
theorem scMatchTally : FnScope nMatchTally ["self"] (defScope sMatchTally) := ⟨rfl, rfl, rfl, by decide +kernel, rfl, by decide +kernel, by decide +kernel⟩
section
variable {P : Program} {w : World} {K : PySem.W.Frag} {mg : Str → Option Value} {base : Heap} {f C : Addr} {fd : FuncData} {k j : Nat}
theorem fn_Match_tally (B : BI mg) (T : MFacts K C) (F : Fun K "tally" "Match.tally" sMatchTally f fd) : FnOk P w K mg base CX0 (k + 1) f fd ["self"] (SpM K (RMTally C)) := by
  refine fn_ofM F scMatchTally (by decide) (fun xs μ r μ' h => by obtain ⟨_, _, _, rfl, _⟩ := h; rfl) (fun cdv A outer s H E hr => ⟨_, (pss_one (ps_ret (pe_tup (pa_cons (pe_callB (call_lenK K rfl) (by rfl) B.len boot_len (pa_cons (pe_fldK K rfl (pv 0) (by rfl)) pa_nil)) (pa_cons (pe_callB (call_lenK K rfl) (by rfl) B.len boot_len (pa_cons (pe_fldK K rfl (pv 0) (by rfl)) pa_nil)) pa_nil))))), fun xs μ r μ' h => ?_⟩)
  try dsimp only [cxOf, Cx.nox, Cx.wish]
  obtain ⟨rs, mv, gn, rfl, rfl, rfl, rfl⟩ := h
  exact .inl (xm_ret (ex_tup (exs_cons (ex_cb (ds := [.tuple mv]) (exs_cons (ex_self (n := 0) rfl rfl T.cl T.nM lk_made) exs_nil) cd_lenT) (exs_cons (ex_cb (ds := [.tuple gn]) (exs_cons (ex_self (n := 0) rfl rfl T.cl T.nG lk_gone) exs_nil) cd_lenT) exs_nil)) (by simp)))
end
end LM

set_option Elab.async false
set_option linter.all false
set_option maxRecDepth 100000
set_option maxHeartbeats 4000000
namespace LM
open PySem PySem.Spec PyProof.Rows L2 Evl
/-! ### Match_is_over -/
abbrev sMatchIsOver : Stmt := inClass (topS 7) 4
abbrev nMatchIsOver : List Str := ["self", "game", "who"]
theorem scMatchIsOver : FnScope nMatchIsOver ["self"] (defScope sMatchIsOver) := ⟨rfl, rfl, rfl, by decide +kernel, rfl, by decide +kernel, by decide +kernel⟩
section
variable {P : Program} {w : World} {K : PySem.W.Frag} {mg : Str → Option Value} {base : Heap} {f C : Addr} {fd : FuncData} {k j : Nat}
theorem fn_Match_is_over (B : BI mg) (T : MFacts K C) (F : Fun K "is_over" "Match.is_over" sMatchIsOver f fd) (h_Match_standing : HasM P w K mg base k C "standing" (SpM K (RMStand C))) : FnOk P w K mg base CX0 (k + 1) f fd ["self"] (SpM K (RMOver C)) := by
  have cl_Match := T.cl
  refine fn_ofM F scMatchIsOver (by decide) (fun xs μ r μ' h => by obtain ⟨_, _, _, _, _, _, rfl, _⟩ := h; rfl) (fun cdv A outer s H E hr => ⟨_, (pss_cons (ps_asg (pe_hm0 h_Match_standing cl_Match hr (by omega) (pv 0)) (pg_tupK K rfl (pg_tup (n := 2) rfl (pgs_cons (pg_name (i := 1) scMatchIsOver.nd rfl (by first | exact .inl rfl | exact .inr rfl)) (pgs_cons (pg_name (i := 2) scMatchIsOver.nd rfl (by first | exact .inl rfl | exact .inr rfl)) pgs_nil)))))
    (pss_one (ps_ret (pe_cmpR (op_eqK K rfl (hu64 hr)) (pe_ix (ix_K K rfl) (pv 1) (pv 2) (fun _ _ => rfl)) (pe_tup pa_nil) (nomark _))))), fun xs μ r μ' h => ?_⟩)
  try dsimp only [cxOf, Cx.nox, Cx.wish]
  obtain ⟨rs, d, w', f', mv, gn, rfl, rfl, ok, hf, hw, rfl, rfl⟩ := h
  obtain ⟨l, rfl, hl⟩ := opt_at ok hw
  have sh : SeqAt.shaped (.tuple (optD (.tuple l) w')) = true := (fits_opt ok).shaped (by omega)
  refine .inl (xm_seq (xm_unp (ex_mm (n := 0) rfl rfl (by decide +kernel) (by decide +kernel) (by decide +kernel) (ds := []) exs_nil (r := .tuple [.tuple l, .int w']) ⟨rs, rowD (.tuple l) w', mv, gn, rfl, rfl, rfl, rfl⟩)) (xm_ret (ex_it (ex_pure (ed_op (ed_op (ed_var rfl) (ed_var rfl) (rd_ixUT hl)) (ed_tup eds_nil) (rd_eqU sh rfl))) ?_)))
  rw [eqv_tup, eqvs_nil]
end
/-! ### Match_move -/
abbrev sMatchMove : Stmt := inClass (topS 7) 2
abbrev nMatchMove : List Str := ["self", "k", "game", "who"]
theorem scMatchMove : FnScope nMatchMove ["self", "k"] (defScope sMatchMove) := ⟨rfl, rfl, rfl, by decide +kernel, rfl, by decide +kernel, by decide +kernel⟩
section
variable {P : Program} {w : World} {K : PySem.W.Frag} {mg : Str → Option Value} {base : Heap} {f C : Addr} {fd : FuncData} {k j : Nat}
theorem fn_Match_move (B : BI mg) (T : MFacts K C) (F : Fun K "move" "Match.move" sMatchMove f fd) (h_Match_standing : HasM P w K mg base k C "standing" (SpM K (RMStand C))) : FnOk P w K mg base CX0 (k + 1) f fd ["self", "k"] (SpM K (RMMove C)) := by
  have cl_Match := T.cl
  refine fn_ofM F scMatchMove (by decide) (fun xs μ r μ' h => by obtain ⟨_, _, _, _, _, _, _, _, rfl, _⟩ := h; rfl) (fun cdv A outer s H E hr => ⟨_, (pss_cons (ps_asg (pe_hm0 h_Match_standing cl_Match hr (by omega) (pv 0)) (pg_tupK K rfl (pg_tup (n := 2) rfl (pgs_cons (pg_name (i := 2) scMatchMove.nd rfl (by first | exact .inl rfl | exact .inr rfl)) (pgs_cons (pg_name (i := 3) scMatchMove.nd rfl (by first | exact .inl rfl | exact .inr rfl)) pgs_nil)))))
    (pss_cons (ps_if (pw_or (pt_val (pe_callB (call_isiK' K rfl) (by rfl) B.isinstance boot_isinstance (pa_cons (pv 1) (pa_cons (pe_bltn (v := .ty "bool") (by rfl) B.bool boot_bool rfl) pa_nil)))) (pw_or (pt_not (pt_val (pe_callB (call_isiK' K rfl) (by rfl) B.isinstance boot_isinstance (pa_cons (pv 1) (pa_cons (pe_bltn (v := .ty "int") (by rfl) B.int boot_int rfl) pa_nil))))) (pw_or1 (pt_not (pt_chain op_le (op_ltK K rfl (hu64 hr)) pe_int (pv 1) (pe_callB (call_lenK K rfl) (by rfl) B.len boot_len (pa_cons (pe_ix (ix_K K rfl) (pv 2) (pv 3) (fun _ _ => rfl)) pa_nil))))))).pt (pss_one ps_never) pss_nil)
    (pss_cons (ps_fldK K rfl (pv 0) (pe_op (op_addK K rfl) (pe_fldK K rfl (pv 0) (by rfl)) (pe_tup (pa_cons (pe_tup (pa_cons (pe_ix (ix_K K rfl) (pe_ix (ix_K K rfl) (pv 2) (pv 3) (fun _ _ => rfl)) (pv 1) (fun _ _ => rfl)) (pa_cons (pe_op op_sub pe_int (pv 3)) pa_nil))) pa_nil))) (by rfl))
    (pss_cons (ps_fldK K rfl (pv 0) (pe_op (op_addK K rfl) (pe_fldK K rfl (pv 0) (by rfl)) (pe_tup (pa_cons (pv 1) pa_nil))) (by rfl))
    (pss_cons (ps_fldK K rfl (pv 0) (pe_tup pa_nil) (by rfl))
    (pss_one (ps_ret (pe_ix (ix_K K rfl) (pe_ix (ix_K K rfl) (pv 2) (pv 3) (fun _ _ => rfl)) (pv 1) (fun _ _ => rfl))))))))), fun xs μ r μ' h => ?_⟩)
  try dsimp only [cxOf, Cx.nox, Cx.wish]
  obtain ⟨rs, d, w', f', mv, gn, jj, e, rfl, rfl, ok, hz, hw, he, l1, l2, rfl, rfl⟩ := h
  obtain ⟨l, rfl, hl⟩ := opt_at ok hw
  have hj := (List.getElem?_eq_some_iff.mp he).1
  have hi : atI (optD (.tuple l) w') (jj : Int) = some e := atI_nat he
  refine .inl (xm_seq (xm_unp (ex_mm (n := 0) rfl rfl (by decide +kernel) (by decide +kernel) (by decide +kernel) (ds := []) exs_nil (r := .tuple [.tuple l, .int w']) ⟨rs, rowD (.tuple l) w', mv, gn, rfl, rfl, rfl, rfl⟩)) ?_)
  refine (show XM K _ [some (.o 0), some (.d (.int (jj : Int))), some (.d (.tuple l)), some (.d (.int w'))] [.ins C (mf (rs ++ [rowD (.tuple l) w']) mv gn)] _ from ?_)
  refine xm_seq (xm_ifF (tx_is (tx_or (p := false) (tx_pure (et_test (ed_isi (ed_var rfl) (by decide +kernel : kitB "int" "bool" = some false)))) (fun _ => tx_or (p := false) (tx_is (tx_not (tx_pure (et_test (ed_isi (ed_var rfl) (by decide +kernel : kitB "int" "int" = some true))))) rfl) (fun _ => tx_not (tx_pure (et_test (ed_chain (x := true) (y := true) ed_int (ed_var rfl) (ed_rd_is rd_le (by simp)) fun _ => ⟨ed_cb (eds_cons (ed_op (ed_var rfl) (ed_var rfl) (rd_ixUT hl)) eds_nil) cd_lenT, ed_rd_is rd_ltI (by simp; exact hj)⟩)))) (fun z => by cases z)) (fun z => by cases z)) rfl) xm_next) ?_
  have row : ED K (tTup (tCons (tOp (rIx K) (tOp (rIx K) (tVar 2) (tVar 3)) (tVar 1)) (tCons (tOp (rI0 fun i j => .int (i - j)) (tC (.int 1)) (tVar 3)) tNil))) [none, some (.int (jj : Int)), some (.tuple l), some (.int w')] (rowD e (1 - w')) := ed_tup (eds_cons (ed_op (ed_op (ed_var rfl) (ed_var rfl) (rd_ixUT hl)) (ed_var rfl) (rd_ixUT hi)) (eds_cons (ed_op ed_int (ed_var rfl) rd_sub) eds_nil)) (by simp)
  refine xm_seq (xm_out (xm_fld (n := 0) (ex_op (ex_self (n := 0) rfl rfl T.cl T.nR lk_rows) (ex_pure (d := .tuple [rowD e (1 - w')]) (ed_tup (eds_cons row eds_nil) (by simp))) (rd_addT (by simp; omega))) rfl rfl T.cl T.nR (by show 3 < 1000; decide)) (o' := .nx [some (.o 0), some (.d (.int (jj : Int))), some (.d (.tuple l)), some (.d (.int w'))] [.ins C (mf (rs ++ [rowD (.tuple l) w'] ++ [rowD e (1 - w')]) mv gn)]) (by rw [put_rows]; rfl)) ?_
  refine xm_seq (xm_out (xm_fld (n := 0) (ex_op (ex_self (n := 0) rfl rfl T.cl T.nM lk_made) (ex_pure (d := .tuple [.int (jj : Int)]) (ed_tup (eds_cons (ed_var rfl) eds_nil) (by simp))) (rd_addT (by simp; omega))) rfl rfl T.cl T.nM (by show 3 < 1000; decide)) (o' := .nx [some (.o 0), some (.d (.int (jj : Int))), some (.d (.tuple l)), some (.d (.int w'))] [.ins C (mf (rs ++ [rowD (.tuple l) w'] ++ [rowD e (1 - w')]) (mv ++ [.int (jj : Int)]) gn)]) (by rw [put_made]; rfl)) ?_
  refine xm_seq (xm_out (xm_fld (n := 0) (ex_pure (d := .tuple []) (ed_tup eds_nil)) rfl rfl T.cl T.nG (by show 3 < 1000; decide)) (o' := .nx [some (.o 0), some (.d (.int (jj : Int))), some (.d (.tuple l)), some (.d (.int w'))] [.ins C (mf (rs ++ [rowD (.tuple l) w'] ++ [rowD e (1 - w')]) (mv ++ [.int (jj : Int)]) [])]) (by rw [put_gone]; rfl)) ?_
  exact xm_ret (ex_pure (ed_op (ed_op (ed_var rfl) (ed_var rfl) (rd_ixUT hl)) (ed_var rfl) (rd_ixUT hi)))
end
/-! ### Match_back -/
abbrev sMatchBack : Stmt := inClass (topS 7) 7
abbrev nMatchBack : List Str := ["self", "k"]
theorem scMatchBack : FnScope nMatchBack ["self"] (defScope sMatchBack) := ⟨rfl, rfl, rfl, by decide +kernel, rfl, by decide +kernel, by decide +kernel⟩
section
variable {P : Program} {w : World} {K : PySem.W.Frag} {mg : Str → Option Value} {base : Heap} {f C : Addr} {fd : FuncData} {k j : Nat}
theorem fit_ints (ks : List Int) : ∀ d ∈ intsD ks, fitD 5 d := fun d hd => by
  obtain ⟨i, _, rfl⟩ := List.mem_map.mp hd
  exact fit_int
theorem take_snoc {α : Type} (l : List α) (x : α) : (l ++ [x]).take ((l ++ [x]).length - 1) = l := by
  rw [List.length_append, List.length_singleton, Nat.add_sub_cancel]
  exact List.take_left
theorem fn_Match_back (B : BI mg) (T : MFacts K C) (F : Fun K "back" "Match.back" sMatchBack f fd) : FnOk P w K mg base CX0 (k + 1) f fd ["self"] (SpM K (RMBack C)) := by
  refine fn_ofM F scMatchBack (by decide) (fun xs μ r μ' h => by obtain ⟨_, _, _, _, _, rfl, _⟩ := h; rfl) (fun cdv A outer s H E hr => ⟨_, (pss_cons (ps_if (pt_cmpR (op_eqK K rfl (hu64 hr)) (pe_fldK K rfl (pv 0) (by rfl)) (pe_tup pa_nil) (nomark _)) (pss_one ps_never) pss_nil)
    (pss_cons (ps_set (i := 1) scMatchBack.nd rfl (by first | exact .inl rfl | exact .inr rfl) (pe_ix (ix_K K rfl) (pe_fldK K rfl (pv 0) (by rfl)) (pe_un un_neg pe_int) (fun _ _ => rfl)))
    (pss_cons (ps_fldK K rfl (pv 0) (pe_slice (sl_K K rfl) (pe_fldK K rfl (pv 0) (by rfl)) po_none (po_some (pe_un un_neg pe_int))) (by rfl))
    (pss_cons (ps_fldK K rfl (pv 0) (pe_op (op_addK K rfl) (pe_fldK K rfl (pv 0) (by rfl)) (pe_tup (pa_cons (pe_tup (pa_cons (pv 1) (pa_cons (pe_ix (ix_K K rfl) (pe_fldK K rfl (pv 0) (by rfl)) (pe_un un_neg pe_int) (fun _ _ => rfl)) pa_nil))) pa_nil))) (by rfl))
    (pss_cons (ps_fldK K rfl (pv 0) (pe_slice (sl_K K rfl) (pe_fldK K rfl (pv 0) (by rfl)) po_none (po_some (pe_un un_neg pe_int))) (by rfl))
    (pss_one (ps_ret (pv 1)))))))), fun xs μ r μ' h => ?_⟩)
  try dsimp only [cxOf, Cx.nox, Cx.wish]
  obtain ⟨rs, row, gn, ks, kk, rfl, rfl, l1, l2, rfl, rfl⟩ := h
  have sh : SeqAt.shaped (.tuple (intsD ks ++ [.int kk])) = true := (fit_tup (n := 5).mpr fun d hd => by
    rcases List.mem_append.mp hd with h | h
    · exact fit_ints ks d h
    · rw [List.mem_singleton.mp h]; exact fit_int).shaped (by decide)
  have cM := take_snoc (intsD ks) (.int kk)
  have cR := take_snoc rs row
  refine .inl ?_
  refine (show XM K _ [some (.o 0), none] _ _ from ?_)
  refine xm_seq (xm_ifF (tx_is (tx_test (ex_op (ex_self (n := 0) rfl rfl T.cl T.nM lk_made) (ex_pure (d := .tuple []) (ed_tup eds_nil)) (rd_eqU sh rfl))) (by rw [eqv_tup, eqvs_nil]; simp)) xm_next) ?_
  refine xm_seq (xm_asg (ex_op (ex_self (n := 0) rfl rfl T.cl T.nM lk_made) (ex_pure (d := .int (-1)) (ed_un ed_int ud_neg)) (rd_ixUT atI_last))) ?_
  refine (show XM K _ [some (.o 0), some (.d (.int kk))] _ _ from ?_)
  refine xm_seq (xm_out (xm_fld (n := 0) (ex_slT (ex_self (n := 0) rfl rfl T.cl T.nM lk_made) eo_none (eo_some (ed_un ed_int ud_neg))) rfl rfl T.cl T.nM (by show 3 < 1000; decide)) (o' := .nx [some (.o 0), some (.d (.int kk))] [.ins C (mf (rs ++ [row]) (intsD ks) gn)]) (by rw [cut_front, cM, put_made]; rfl)) ?_
  refine xm_seq (xm_out (xm_fld (n := 0) (ex_op (ex_self (n := 0) rfl rfl T.cl T.nG lk_gone) (ex_tup (ds := [.tuple [.int kk, row]]) (exs_cons (ex_tup (ds := [.int kk, row]) (exs_cons (ex_var rfl) (exs_cons (ex_op (ex_self (n := 0) rfl rfl T.cl T.nR lk_rows) (ex_pure (d := .int (-1)) (ed_un ed_int ud_neg)) (rd_ixUT atI_last)) exs_nil)) (by simp)) exs_nil) (by simp)) (rd_addT (by simp; omega))) rfl rfl T.cl T.nG (by show 3 < 1000; decide)) (o' := .nx [some (.o 0), some (.d (.int kk))] [.ins C (mf (rs ++ [row]) (intsD ks) (gn ++ [.tuple [.int kk, row]]))]) (by rw [put_gone]; rfl)) ?_
  refine xm_seq (xm_out (xm_fld (n := 0) (ex_slT (ex_self (n := 0) rfl rfl T.cl T.nR lk_rows) eo_none (eo_some (ed_un ed_int ud_neg))) rfl rfl T.cl T.nR (by show 3 < 1000; decide)) (o' := .nx [some (.o 0), some (.d (.int kk))] [.ins C (mf rs (intsD ks) (gn ++ [.tuple [.int kk, row]]))]) (by rw [cut_front, cR, put_rows]; rfl)) ?_
  exact xm_ret (ex_var rfl)
end
/-! ### Match_forth -/
abbrev sMatchForth : Stmt := inClass (topS 7) 8
abbrev nMatchForth : List Str := ["self", "k", "row"]
theorem scMatchForth : FnScope nMatchForth ["self"] (defScope sMatchForth) := ⟨rfl, rfl, rfl, by decide +kernel, rfl, by decide +kernel, by decide +kernel⟩
section
variable {P : Program} {w : World} {K : PySem.W.Frag} {mg : Str → Option Value} {base : Heap} {f C : Addr} {fd : FuncData} {k j : Nat}
theorem fn_Match_forth (B : BI mg) (T : MFacts K C) (F : Fun K "forth" "Match.forth" sMatchForth f fd) : FnOk P w K mg base CX0 (k + 1) f fd ["self"] (SpM K (RMForth C)) := by
  refine fn_ofM F scMatchForth (by decide) (fun xs μ r μ' h => by obtain ⟨_, _, _, _, _, rfl, _⟩ := h; rfl) (fun cdv A outer s H E hr => ⟨_, (pss_cons (ps_if (pt_cmpR (op_eqK K rfl (hu64 hr)) (pe_fldK K rfl (pv 0) (by rfl)) (pe_tup pa_nil) (nomark _)) (pss_one ps_never) pss_nil)
    (pss_cons (ps_asg (pe_ix (ix_K K rfl) (pe_fldK K rfl (pv 0) (by rfl)) (pe_un un_neg pe_int) (fun _ _ => rfl)) (pg_tupK K rfl (pg_tup (n := 2) rfl (pgs_cons (pg_name (i := 1) scMatchForth.nd rfl (by first | exact .inl rfl | exact .inr rfl)) (pgs_cons (pg_name (i := 2) scMatchForth.nd rfl (by first | exact .inl rfl | exact .inr rfl)) pgs_nil)))))
    (pss_cons (ps_fldK K rfl (pv 0) (pe_slice (sl_K K rfl) (pe_fldK K rfl (pv 0) (by rfl)) po_none (po_some (pe_un un_neg pe_int))) (by rfl))
    (pss_cons (ps_fldK K rfl (pv 0) (pe_op (op_addK K rfl) (pe_fldK K rfl (pv 0) (by rfl)) (pe_tup (pa_cons (pv 1) pa_nil))) (by rfl))
    (pss_cons (ps_fldK K rfl (pv 0) (pe_op (op_addK K rfl) (pe_fldK K rfl (pv 0) (by rfl)) (pe_tup (pa_cons (pv 2) pa_nil))) (by rfl))
    (pss_one (ps_ret (pv 1)))))))), fun xs μ r μ' h => ?_⟩)
  try dsimp only [cxOf, Cx.nox, Cx.wish]
  obtain ⟨rs, row, mv, gn, kk, rfl, rfl, f1, f2, l1, l2, rfl, rfl⟩ := h
  have sh : SeqAt.shaped (.tuple (gn ++ [.tuple [.int kk, row]])) = true := (fit_tup (n := 41).mpr fun d hd => by
    rcases List.mem_append.mp hd with h | h
    · exact (f1 d h).mono (by decide)
    · rw [List.mem_singleton.mp h]
      exact fit_tup.mpr fun x hx => by
        rcases List.mem_cons.mp hx with z | z
        · rw [z]; exact fit_int
        · rw [List.mem_singleton.mp z]; exact f2).shaped (by decide)
  have cG := take_snoc gn (.tuple [.int kk, row])
  refine .inl ?_
  refine (show XM K _ [some (.o 0), none, none] _ _ from ?_)
  refine xm_seq (xm_ifF (tx_is (tx_test (ex_op (ex_self (n := 0) rfl rfl T.cl T.nG lk_gone) (ex_pure (d := .tuple []) (ed_tup eds_nil)) (rd_eqU sh rfl))) (by rw [eqv_tup, eqvs_nil]; simp)) xm_next) ?_
  refine xm_seq (xm_unp (ex_op (ex_self (n := 0) rfl rfl T.cl T.nG lk_gone) (ex_pure (d := .int (-1)) (ed_un ed_int ud_neg)) (rd_ixUT atI_last))) ?_
  refine (show XM K _ [some (.o 0), some (.d (.int kk)), some (.d row)] _ _ from ?_)
  refine xm_seq (xm_out (xm_fld (n := 0) (ex_slT (ex_self (n := 0) rfl rfl T.cl T.nG lk_gone) eo_none (eo_some (ed_un ed_int ud_neg))) rfl rfl T.cl T.nG (by show 3 < 1000; decide)) (o' := .nx [some (.o 0), some (.d (.int kk)), some (.d row)] [.ins C (mf rs mv gn)]) (by rw [cut_front, cG, put_gone]; rfl)) ?_
  refine xm_seq (xm_out (xm_fld (n := 0) (ex_op (ex_self (n := 0) rfl rfl T.cl T.nM lk_made) (ex_pure (d := .tuple [.int kk]) (ed_tup (eds_cons (ed_var rfl) eds_nil) (by simp))) (rd_addT (by simp; omega))) rfl rfl T.cl T.nM (by show 3 < 1000; decide)) (o' := .nx [some (.o 0), some (.d (.int kk)), some (.d row)] [.ins C (mf rs (mv ++ [.int kk]) gn)]) (by rw [put_made]; rfl)) ?_
  refine xm_seq (xm_out (xm_fld (n := 0) (ex_op (ex_self (n := 0) rfl rfl T.cl T.nR lk_rows) (ex_pure (d := .tuple [row]) (ed_tup (eds_cons (ed_var rfl) eds_nil) (by simp))) (rd_addT (by simp; omega))) rfl rfl T.cl T.nR (by show 3 < 1000; decide)) (o' := .nx [some (.o 0), some (.d (.int kk)), some (.d row)] [.ins C (mf (rs ++ [row]) (mv ++ [.int kk]) gn)]) (by rw [put_rows]; rfl)) ?_
  exact xm_ret (ex_var rfl)
end
/-! ### Match_twin -/
abbrev sMatchTwin : Stmt := inClass (topS 7) 10
abbrev nMatchTwin : List Str := ["self", "game", "who", "found"]
theorem scMatchTwin : FnScope nMatchTwin ["self"] (defScope sMatchTwin) := ⟨rfl, rfl, rfl, by decide +kernel, rfl, by decide +kernel, by decide +kernel⟩
section
variable {P : Program} {w : World} {K : PySem.W.Frag} {mg : Str → Option Value} {base : Heap} {f C : Addr} {fd : FuncData} {k j : Nat}
theorem fn_Match_twin (B : BI mg) (T : MFacts K C) (F : Fun K "twin" "Match.twin" sMatchTwin f fd) (mk_Match : HasMk P w K mg base j "Match" C (SpM K (RMInit C))) (hk : j + 1 ≤ k) : FnOk P w K mg base CX0 (k + 1) f fd ["self"] (SpM K (RMTwin C)) := by
  refine fn_ofM F scMatchTwin (by decide) (fun xs μ r μ' h => by obtain ⟨_, _, _, _, _, rfl, _⟩ := h; rfl) (fun cdv A outer s H E hr => ⟨_, (pss_cons (ps_asg (pe_ix (ix_K K rfl) (pe_fldK K rfl (pv 0) (by rfl)) pe_int (fun _ _ => rfl)) (pg_tupK K rfl (pg_tup (n := 2) rfl (pgs_cons (pg_name (i := 1) scMatchTwin.nd rfl (by first | exact .inl rfl | exact .inr rfl)) (pgs_cons (pg_name (i := 2) scMatchTwin.nd rfl (by first | exact .inl rfl | exact .inr rfl)) pgs_nil)))))
    (pss_cons (ps_set (i := 3) scMatchTwin.nd rfl (by first | exact .inl rfl | exact .inr rfl) (pe_mk mk_Match hr (by omega) (by rfl) (pa_cons (pv 1) (pa_cons (pv 2) pa_nil))))
    (pss_cons (ps_fldK K rfl (pv 3) (pe_fldK K rfl (pv 0) (by rfl)) (by rfl))
    (pss_cons (ps_fldK K rfl (pv 3) (pe_fldK K rfl (pv 0) (by rfl)) (by rfl))
    (pss_cons (ps_fldK K rfl (pv 3) (pe_fldK K rfl (pv 0) (by rfl)) (by rfl))
    (pss_one (ps_ret (pv 3)))))))), fun xs μ r μ' h => ?_⟩)
  try dsimp only [cxOf, Cx.nox, Cx.wish]
  obtain ⟨d, w', rs, mv, gn, rfl, rfl, rfl, rfl⟩ := h
  refine .inl ?_
  refine (show XM K _ [some (.o 0), none, none, none] _ _ from ?_)
  refine xm_seq (xm_unp (ex_op (ex_self (n := 0) rfl rfl T.cl T.nR lk_rows) (ex_pure (d := .int 0) ed_int) (rd_ixUT (d := .tuple [d, w']) (atI_z (by decide) rfl)))) ?_
  refine xm_seq (xm_asg (ex_mu (ex_makeM (K := K) (C := C) (x := .o 0) (xs := [.d d, .d w']) [1] (exs_pure (ds := [d, w']) (eds_cons (ed_var rfl) (eds_cons (ed_var rfl) eds_nil))) rfl (by simp) (by simp) (seenN 1 rfl rfl rfl) (fun y hy => by
    simp only [List.mem_cons, List.not_mem_nil, or_false] at hy
    rcases hy with rfl | rfl | rfl
    · exact Nat.zero_lt_one
    · exact True.intro
    · exact True.intro) ⟨d, w', rfl, rfl, rfl, rfl⟩) (show _ = ([.ins C (mf (.tuple [d, w'] :: rs) mv gn), .ins C (mf [.tuple [d, w']] [] [])] : Mu) from rfl))) ?_
  refine (show XM K _ [some (.o 0), some (.d d), some (.d w'), some (.o 1)] _ _ from ?_)
  refine xm_seq (xm_out (xm_fld (n := 1) (ex_self (n := 0) rfl rfl T.cl T.nR lk_rows) rfl rfl T.cl T.nR (by show 3 < 1000; decide)) (o' := .nx [some (.o 0), some (.d d), some (.d w'), some (.o 1)] [.ins C (mf (.tuple [d, w'] :: rs) mv gn), .ins C (mf (.tuple [d, w'] :: rs) [] [])]) (by rw [put_rows]; rfl)) ?_
  refine xm_seq (xm_out (xm_fld (n := 1) (ex_self (n := 0) rfl rfl T.cl T.nM lk_made) rfl rfl T.cl T.nM (by show 3 < 1000; decide)) (o' := .nx [some (.o 0), some (.d d), some (.d w'), some (.o 1)] [.ins C (mf (.tuple [d, w'] :: rs) mv gn), .ins C (mf (.tuple [d, w'] :: rs) mv [])]) (by rw [put_made]; rfl)) ?_
  refine xm_seq (xm_out (xm_fld (n := 1) (ex_self (n := 0) rfl rfl T.cl T.nG lk_gone) rfl rfl T.cl T.nG (by show 3 < 1000; decide)) (o' := .nx [some (.o 0), some (.d d), some (.d w'), some (.o 1)] [.ins C (mf (.tuple [d, w'] :: rs) mv gn), .ins C (mf (.tuple [d, w'] :: rs) mv gn)]) (by rw [put_gone]; rfl)) ?_
  exact xm_ret (ex_var rfl)
end
/-! ### _law_seen -/
abbrev sLawSeen : Stmt := topS 18
abbrev nLawSeen : List Str := ["_law_match"]
theorem scLawSeen : FnScope nLawSeen ["_law_match"] (defScope sLawSeen) := ⟨rfl, rfl, rfl, by decide +kernel, rfl, by decide +kernel, by decide +kernel⟩
section
variable {P : Program} {w : World} {K : PySem.W.Frag} {mg : Str → Option Value} {base : Heap} {f C : Addr} {fd : FuncData} {k j : Nat}
theorem has__law_seen (B : BI mg) (T : MFacts K C) (F : Fun K "_law_seen" "_law_seen" sLawSeen f fd) (b : Binds K fd ["_law_match"] []) (hm : mg "_law_seen" = some (.ref f)) (h_Match_standing : HasM P w K mg base k C "standing" (SpM K (RMStand C))) (h_Match_moves : HasM P w K mg base k C "moves" (SpM K (RMMoves C))) (h_Match_tally : HasM P w K mg base k C "tally" (SpM K (RMTally C)))
    (h_Match_is_over : HasM P w K mg base k C "is_over" (SpM K (RMOver C))) : Has P w K mg base (k + 1) "_law_seen" (SpM K (RMSeen C)) := by
  have cl_Match := T.cl
  refine has_ofM F b hm scLawSeen (by decide) (fun xs μ r μ' h => by obtain ⟨_, _, _, _, _, _, rfl, _⟩ := h; rfl) (fun cdv A outer s H E hr => ⟨_, (pss_one (ps_ret (pe_tup (pa_cons (pe_hm0 h_Match_standing cl_Match hr (by omega) (pv 0)) (pa_cons (pe_hm0 h_Match_moves cl_Match hr (by omega) (pv 0)) (pa_cons (pe_hm0 h_Match_tally cl_Match hr (by omega) (pv 0)) (pa_cons (pe_hm0 h_Match_is_over cl_Match hr (by omega) (pv 0)) pa_nil))))))), fun xs μ r μ' h => ?_⟩)
  try dsimp only [cxOf, Cx.nox, Cx.wish]
  obtain ⟨rs, d, w', f', mv, gn, rfl, rfl, ok, hf, hw, rfl, rfl⟩ := h
  exact .inl (xm_ret (ex_tup (exs_cons (ex_mm (n := 0) rfl rfl (by decide +kernel) (by decide +kernel) (by decide +kernel) (ds := []) exs_nil ⟨rs, rowD d w', mv, gn, rfl, rfl, rfl, rfl⟩) (exs_cons (ex_mm (n := 0) rfl rfl (by decide +kernel) (by decide +kernel) (by decide +kernel) (ds := []) exs_nil ⟨rs ++ [rowD d w'], mv, gn, rfl, rfl, rfl, rfl⟩) (exs_cons (ex_mm (n := 0) rfl rfl (by decide +kernel) (by decide +kernel) (by decide +kernel) (ds := []) exs_nil ⟨rs ++ [rowD d w'], mv, gn, rfl, rfl, rfl, rfl⟩) (exs_cons (ex_mm (n := 0) rfl rfl (by decide +kernel) (by decide +kernel) (by decide +kernel) (ds := []) exs_nil ⟨rs, d, w', f', mv, gn, rfl, rfl, ok, hf, hw, rfl, rfl⟩) exs_nil)))) (by simp)))
end
end LM

set_option Elab.async false
set_option linter.all false
set_option maxRecDepth 100000
set_option maxHeartbeats 4000000
namespace LM
open PySem PySem.Spec PyProof.Rows L2 Evl
/-! ### plays -/
def cntF : Nat → D → Int → Int
  | 0, _, _ => 0
  | f + 1, d, w => if (optD d w).isEmpty = true then 1 else ((optD d w).map fun x => cntF f x (1 - w)).sum
def RCount (F : Nat) (ds : List D) (r : D) : Prop := ∃ (d : D) (w : Int) (f : Nat), ds = [d, .int w] ∧ f < F ∧ okG f d = true ∧ sz d ≤ 50000 ∧ (w = 0 ∨ w = 1) ∧ r = .int (cntF f d w)
theorem sum_pos : ∀ {l : List Int}, (∀ x ∈ l, 1 ≤ x) → (l ≠ [] → 1 ≤ l.sum) ∧ 0 ≤ l.sum
  | [], _ => ⟨fun h => absurd rfl h, Int.le_refl _⟩
  | x :: l, h => by
    have h1 := h x List.mem_cons_self
    have h2 := (sum_pos fun y hy => h y (List.mem_cons_of_mem _ hy)).2
    rw [List.sum_cons]
    exact ⟨fun _ => by omega, by omega⟩
theorem cnt_pos : ∀ (f : Nat) (d : D) (w : Int), okG f d = true → 1 ≤ cntF f d w
  | 0, d, w, h => by cases h
  | f + 1, d, w, h => by
    unfold cntF
    split
    · exact Int.le_refl _
    · rename_i hc
      refine (sum_pos fun x hx => ?_).1 ?_
      · obtain ⟨y, hy, rfl⟩ := List.mem_map.mp hx
        exact cnt_pos f y (1 - w) (opt_ok h y hy)
      · intro e
        rw [List.map_eq_nil_iff] at e
        rw [e] at hc
        exact hc rfl
def findM : List Int → Int → Nat × Int
  | [], p => (0, p)
  | c :: cs, p => if p < c then (0, p) else ((findM cs (p - c)).1 + 1, (findM cs (p - c)).2)
theorem find_place : ∀ (cs : List Int) (p : Int), 0 ≤ p → p < cs.sum → ∃ c, cs[(findM cs p).1]? = some c ∧ (∀ k x, k < (findM cs p).1 → cs[k]? = some x → x ≤ p - (cs.take k).sum) ∧ (findM cs p).2 = p - (cs.take (findM cs p).1).sum ∧ 0 ≤ (findM cs p).2 ∧ (findM cs p).2 < c
  | [], p, h0, h1 => by simp at h1; omega
  | c :: cs, p, h0, h1 => by
    unfold findM
    by_cases hc : p < c
    · rw [if_pos hc]
      exact ⟨c, rfl, fun k x hk _ => absurd hk (Nat.not_lt_zero _), by simp, h0, hc⟩
    · rw [if_neg hc]
      rw [List.sum_cons] at h1
      obtain ⟨x, e1, e2, e3, e4, e5⟩ := find_place cs (p - c) (by omega) (by omega)
      refine ⟨x, by simpa using e1, fun k y hk hy => ?_, ?_, e4, e5⟩
      · cases k with
        | zero =>
          have : c = y := by simpa using hy
          simp only [List.take_zero, List.sum_nil]; omega
        | succ k =>
          have := e2 k y (by dsimp only at hk; omega) (by simpa using hy)
          rw [List.take_succ_cons, List.sum_cons]; omega
      · dsimp only
        rw [List.take_succ_cons, List.sum_cons]; omega
def stepD (d : D) (w : Int) (j : Nat) : D := (optD d w).getD j .none
/-- a play to its end -/
def validP : D → Int → List Nat → Prop
  | d, w, [] => optD d w = []
  | d, w, j :: js => j < (optD d w).length ∧ validP (stepD d w j) (1 - w) js
abbrev natD (js : List Nat) : List D := js.map fun (j : Nat) => PyData.int (j : Int)
def cntsD (f : Nat) (d : D) (w : Int) : List Int := (optD d w).map fun x => cntF f x (1 - w)
def playF : Nat → D → Int → Int → List Nat
  | 0, _, _, _ => []
  | f + 1, d, w, p => if (optD d w).isEmpty = true then [] else (findM (cntsD f d w) p).1 :: playF f (stepD d w (findM (cntsD f d w) p).1) (1 - w) (findM (cntsD f d w) p).2
theorem play_step {f : Nat} {d : D} {w p : Int} (h0 : 0 ≤ p) (h1 : p < (cntsD f d w).sum) : ∃ e, (optD d w)[(findM (cntsD f d w) p).1]? = some e ∧ stepD d w (findM (cntsD f d w) p).1 = e ∧ 0 ≤ (findM (cntsD f d w) p).2 ∧ (findM (cntsD f d w) p).2 < cntF f e (1 - w) := by
  obtain ⟨c, e1, e2, e3, e4, e5⟩ := find_place _ p h0 h1
  unfold cntsD at e1
  rw [List.getElem?_map] at e1
  obtain ⟨e, h2, h3⟩ := Option.map_eq_some_iff.mp e1
  unfold cntsD at e4 e5
  refine ⟨e, h2, ?_, e4, by rw [h3]; exact e5⟩
  unfold stepD cntsD
  rw [List.getD_eq_getElem?_getD, h2]; rfl
theorem play_valid : ∀ (f : Nat) (d : D) (w p : Int), okG f d = true → 0 ≤ p → p < cntF f d w → validP d w (playF f d w p) ∧ (playF f d w p).length < f
  | 0, d, w, p, ok, _, _ => by cases ok
  | f + 1, d, w, p, ok, h0, h1 => by
    unfold cntF at h1
    unfold playF
    by_cases c : (optD d w).isEmpty = true
    · rw [if_pos c]
      exact ⟨List.isEmpty_iff.mp c, Nat.succ_pos _⟩
    · rw [if_neg c] at h1 ⊢
      obtain ⟨e, k1, k2, k3, k4⟩ := play_step h0 h1
      rw [k2]
      obtain ⟨v1, v2⟩ := play_valid f e (1 - w) _ (opt_ok ok e (List.mem_of_getElem? k1)) k3 k4
      exact ⟨⟨(List.getElem?_eq_some_iff.mp k1).1, by rw [k2]; exact v1⟩, by rw [List.length_cons]; omega⟩
def RPlayAt (F : Nat) (ds : List D) (r : D) : Prop := ∃ (d : D) (w p : Int) (f : Nat), ds = [d, .int w, .int p] ∧ f < F ∧ okG f d = true ∧ sz d ≤ 50000 ∧ (w = 0 ∨ w = 1) ∧ 0 ≤ p ∧ p < cntF f d w ∧ r = .tuple (natD (playF f d w p))
/-! ### count_plays -/
abbrev sCountPlays : Stmt := topS 9
abbrev nCountPlays : List Str := ["game", "who", "move"]
theorem scCountPlays : FnScope nCountPlays ["game", "who"] (defScope sCountPlays) := ⟨rfl, rfl, rfl, by decide +kernel, rfl, by decide +kernel, by decide +kernel⟩
section
variable {P : Program} {w : World} {K : PySem.W.Frag} {mg : Str → Option Value} {base : Heap} {f : Addr} {fd : FuncData} {k j : Nat}
theorem has_count_plays1 (B : BI mg) (F : Fun K "count_plays" "count_plays" sCountPlays f fd) (b : Binds K fd ["game", "who"] []) (hm : mg "count_plays" = some (.ref f)) {N : Nat} (hN : N ≤ 20)
    (h_count_plays : Has P w K mg base k "count_plays" (SpR K (RCount N))) : Has P w K mg base (k + 1) "count_plays" (SpR K (RCount (N + 1))) := by
  refine has_of F b hm scCountPlays (by decide) (fun ds r h => by obtain ⟨_, _, _, rfl, _⟩ := h; rfl) (fun cdv A outer s H E hr => ⟨_, (pss_cons (ps_if (pt_cmpR (op_eqK K rfl (hu64 hr)) (pe_ix (ix_K K rfl) (pv 0) (pv 1) (fun _ _ => rfl)) (pe_tup pa_nil) (nomark _)) (pss_one (ps_ret pe_int)) pss_nil)
    (pss_one (ps_ret (pe_callB (cr_sumK K rfl rfl) (by rfl) B.sum boot_sum (pa_cons (pe_lc (own := [("move", 2)]) rfl scCountPlays.nd (pi_tupK K rfl (pe_ix (ix_K K rfl) (pv 0) (pv 1) (fun _ _ => rfl))) (blkOk_by (N := nCountPlays) (sc := defScope sCountPlays) (by decide +kernel)) (fun _ _ _ _ _ => (pg_name (i := 2) scCountPlays.nd rfl (by first | exact .inl rfl | exact .inr rfl))) (fun _ _ _ _ _ => pts_nil) (fun _ _ _ _ _ => (pe_h h_count_plays hr (by omega) (by rfl) (pa_cons (pv 2) (pa_cons (pe_op op_sub pe_int (pv 1)) pa_nil))))) pa_nil))))), fun ds r h => ?_⟩)
  try dsimp only [cxOf, Cx.nox, Cx.wish]
  obtain ⟨d, w', n, rfl, hn, ok, hz, hw, rfl⟩ := h
  obtain ⟨n, rfl⟩ : ∃ m, n = m + 1 := by
    cases n with
    | zero => cases ok
    | succ n => exact ⟨n, rfl⟩
  obtain ⟨l, rfl, hl⟩ := opt_at ok hw
  have sh : SeqAt.shaped (.tuple (optD (.tuple l) w')) = true := (fits_opt ok).shaped (by omega)
  have oo := opt_ok (w := w') ok
  have so := opt_sz (w := w') ok
  have lo := len_szs (optD (.tuple l) w')
  refine (show XD K _ [some (.tuple l), some (.int w'), none] none _ from ?_)
  unfold cntF
  refine xd_ifs (b := (optD (.tuple l) w').isEmpty) (et_is' (et_test (ed_op (ed_op (ed_var rfl) (ed_var rfl) (rd_ixUT hl)) (ed_tup eds_nil) (rd_eqU sh rfl))) (by rw [eqv_tup, eqvs_nil])) (fun c => ?_) (fun c => xd_nexts ?_)
  · rw [if_pos c]
    exact xd_rets ed_int
  · rw [if_neg (by rw [c]; exact Bool.false_ne_true)]
    refine xd_ret (ed_cb (eds_cons (ed_el (el_mapT (ds := optD (.tuple l) w') (fun x => .int (cntF n x (1 - w'))) (ed_op (ed_var rfl) (ed_var rfl) (rd_ixUT hl)) (fun x hx => ?_) (by omega))) eds_nil) (cd_sum (by rw [List.map_map]; rfl)))
    exact ed_call (eds_cons (ed_var rfl) (eds_cons (ed_op ed_int (ed_var rfl) rd_sub) eds_nil)) ⟨x, 1 - w', n, rfl, by omega, oo x hx, by have := sz_mem hx; omega, w_turn hw, rfl⟩
theorem has_count_plays (B : BI mg) (F : Fun K "count_plays" "count_plays" sCountPlays f fd) (b : Binds K fd ["game", "who"] []) (hm : mg "count_plays" = some (.ref f)) : ∀ N : Nat, N ≤ 20 → Has P w K mg base (k + N) "count_plays" (SpR K (RCount N))
  | 0, _ => has_none F b hm fun ds r h => by obtain ⟨_, _, _, _, h, _⟩ := h; omega
  | N + 1, hN => has_count_plays1 B F b hm (by omega) (has_count_plays B F b hm N (by omega))
end
/-! ### play_at -/
abbrev sPlayAt : Stmt := topS 10
abbrev nPlayAt : List Str := ["game", "who", "place", "found", "k", "move", "many"]
theorem scPlayAt : FnScope nPlayAt ["game", "who", "place"] (defScope sPlayAt) := ⟨rfl, rfl, rfl, by decide +kernel, rfl, by decide +kernel, by decide +kernel⟩
section
variable {P : Program} {w : World} {K : PySem.W.Frag} {mg : Str → Option Value} {base : Heap} {f : Addr} {fd : FuncData} {k j : Nat}
abbrev pst (d : D) (w p : Int) (acc : List D) : Rx := [some (.d d), some (.d (.int w)), some (.d (.int p)), some (.d (.tuple acc)), none, none, none]
theorem pst_less {a b c : Option SV} (d : D) (w p : Int) (acc : List D) : ∀ (i : Nat) (x : SV), (pst d w p acc)[i]? = some (some x) → ([some (.d d), some (.d (.int w)), some (.d (.int p)), some (.d (.tuple acc)), a, b, c] : Rx)[i]? = some (some x) ∧ okV 0 x := fun i x h => by
  rcases i with _ | _ | _ | _ | _ | _ | _ | i
  · cases h; exact ⟨rfl, trivial⟩
  · cases h; exact ⟨rfl, trivial⟩
  · cases h; exact ⟨rfl, trivial⟩
  · cases h; exact ⟨rfl, trivial⟩
  all_goals simp at h
theorem play_loop {M : Nat} (hM : M ≤ 20) {tt : TT} {tu : TS} (ht : ∀ f d w p acc, okG (f + 1) d = true → f ≤ 20 → (w = 0 ∨ w = 1) → TX K tt (pst d w p acc) [] (!(optD d w).isEmpty) [])
    (hb : ∀ (f : Nat) (d : D) (w p : Int) (acc : List D), okG (f + 1) d = true → f + 1 < M → sz d ≤ 50000 → (w = 0 ∨ w = 1) → 0 ≤ p → p < (cntsD f d w).sum → acc.length ≤ 100 →
      XM K tu (pst d w p acc) [] (.nx (pst (stepD d w (findM (cntsD f d w) p).1) (1 - w) (findM (cntsD f d w) p).2 (acc ++ [.int ((findM (cntsD f d w) p).1 : Int)])) [])) :
    ∀ (f : Nat) (d : D) (w p : Int) (acc : List D), okG f d = true → f < M → sz d ≤ 50000 → (w = 0 ∨ w = 1) → 0 ≤ p → p < cntF f d w → acc.length + f ≤ 100 →
      ∃ (n : Nat) (d' : D) (w' p' : Int), WhX K tt tu n (pst d w p acc) [] (.nx (pst d' w' p' (acc ++ natD (playF f d w p))) [])
  | 0, d, w, p, acc, ok, _, _, _, _, _, _ => by cases ok
  | f + 1, d, w, p, acc, ok, hf, hz, hw, h0, h1, hl => by
    have t0 := ht f d w p acc ok (by omega) hw
    unfold cntF at h1
    unfold playF
    cases c : (optD d w).isEmpty with
    | true =>
      rw [c] at t0
      refine ⟨0, d, w, p, ?_⟩
      rw [if_pos rfl, show natD [] = [] from rfl, List.append_nil]
      exact .stop t0
    | false =>
      rw [c] at t0
      rw [if_neg (by rw [c]; exact Bool.false_ne_true)] at h1
      rw [if_neg Bool.false_ne_true]
      obtain ⟨e, k1, k2, k3, k4⟩ := play_step (f := f) h0 h1
      have e4 := hb f d w p acc ok hf hz hw h0 h1 (by omega)
      have hm := List.mem_of_getElem? k1
      have se := opt_sz (w := w) ok
      have sm := sz_mem hm
      rw [k2] at e4 ⊢
      obtain ⟨n, d', w', p', k5⟩ := play_loop hM ht hb f e (1 - w) _ (acc ++ [.int ((findM (cntsD f d w) p).1 : Int)]) (opt_ok ok e hm) (by omega) (by omega) (w_turn hw) k3 k4 (by rw [List.length_append, List.length_singleton]; omega)
      refine ⟨n + 1, d', w', p', .step t0 e4 ?_⟩
      rw [List.append_assoc] at k5
      exact k5
theorem play_end {M : Nat} (hM : M ≤ 20) {tt : TT} {tu u : TS} {o : OutX} {f : Nat} {d : D} {w p : Int} (ok : okG f d = true) (hf : f < M) (hz : sz d ≤ 50000) (hw : w = 0 ∨ w = 1) (h0 : 0 ≤ p) (h1 : p < cntF f d w) (ht : ∀ f d w p acc, okG (f + 1) d = true → f ≤ 20 → (w = 0 ∨ w = 1) → TX K tt (pst d w p acc) [] (!(optD d w).isEmpty) [])
    (hb : ∀ (f : Nat) (d : D) (w p : Int) (acc : List D), okG (f + 1) d = true → f + 1 < M → sz d ≤ 50000 → (w = 0 ∨ w = 1) → 0 ≤ p → p < (cntsD f d w).sum → acc.length ≤ 100 →
      XM K tu (pst d w p acc) [] (.nx (pst (stepD d w (findM (cntsD f d w) p).1) (1 - w) (findM (cntsD f d w) p).2 (acc ++ [.int ((findM (cntsD f d w) p).1 : Int)])) []))
    (k : ∀ d' w' p', XM K u (pst d' w' p' (natD (playF f d w p))) [] o) : XM K (tSeq (tWhile tt tu) u) (pst d w p []) [] o := by
  obtain ⟨n, d', w', p', h⟩ := play_loop hM ht hb f d w p [] ok hf hz hw h0 h1 (by simp; omega)
  exact xm_seq (xm_wh h) (k d' w' p')
theorem has_play_at (B : BI mg) (F : Fun K "play_at" "play_at" sPlayAt f fd) (b : Binds K fd ["game", "who", "place"] []) (hm : mg "play_at" = some (.ref f)) {N : Nat} (hN : N ≤ 20)
    (h_count_plays : Has P w K mg base k "count_plays" (SpR K (RCount N))) : Has P w K mg base (k + 1) "play_at" (SpR K (RPlayAt N)) := by
  refine has_ofP F b hm scPlayAt (by decide) (fun ds r h => by obtain ⟨_, _, _, _, rfl, _⟩ := h; rfl) (fun cdv A outer s H E hr => ⟨_, (pss_cons (ps_if (pt_not (pt_chain op_le (op_ltK K rfl (hu64 hr)) pe_int (pv 2) (pe_h h_count_plays hr (by omega) (by rfl) (pa_cons (pv 0) (pa_cons (pv 1) pa_nil))))) (pss_one ps_never) pss_nil)
    (pss_cons (ps_set (i := 3) scPlayAt.nd rfl (by first | exact .inl rfl | exact .inr rfl) (pe_tup pa_nil))
    (pss_cons (ps_while PassesOwn.never (pt_cmpR (op_neK K rfl (hu64 hr)) (pe_ix (ix_K K rfl) (pv 0) (pv 1) (fun _ _ => rfl)) (pe_tup pa_nil) (nomark _)) (pss_cons (ps_for PassesOwn.never rfl (pi_enumT K rfl (by rfl) B.enumerate (pa_cons (pe_ix (ix_K K rfl) (pv 0) (pv 1) (fun _ _ => rfl)) pa_nil)) (pg_tupK K rfl (pg_tup (n := 2) rfl (pgs_cons (pg_name (i := 4) scPlayAt.nd rfl (by first | exact .inl rfl | exact .inr rfl)) (pgs_cons (pg_name (i := 5) scPlayAt.nd rfl (by first | exact .inl rfl | exact .inr rfl)) pgs_nil)))) (pss_cons (ps_set (i := 6) scPlayAt.nd rfl (by first | exact .inl rfl | exact .inr rfl) (pe_h h_count_plays hr (by omega) (by rfl) (pa_cons (pv 5) (pa_cons (pe_op op_sub pe_int (pv 1)) pa_nil))))
    (pss_cons (ps_if (pt_cmpR (op_ltK K rfl (hu64 hr)) (pv 2) (pv 6) (nomark _)) (pss_one ps_break) pss_nil)
    (pss_one (ps_set (i := 2) scPlayAt.nd rfl (by first | exact .inl rfl | exact .inr rfl) (pe_op op_sub (pv 2) (pv 6)))))))
    (pss_cons (ps_set (i := 3) scPlayAt.nd rfl (by first | exact .inl rfl | exact .inr rfl) (pe_op (op_addK K rfl) (pv 3) (pe_tup (pa_cons (pv 4) pa_nil))))
    (pss_cons (ps_set (i := 0) scPlayAt.nd rfl (by first | exact .inl rfl | exact .inr rfl) (pe_ix (ix_K K rfl) (pe_ix (ix_K K rfl) (pv 0) (pv 1) (fun _ _ => rfl)) (pv 4) (fun _ _ => rfl)))
    (pss_one (ps_set (i := 1) scPlayAt.nd rfl (by first | exact .inl rfl | exact .inr rfl) (pe_op op_sub pe_int (pv 1))))))))
    (pss_one (ps_ret (pv 3)))))), fun ds r h => ?_⟩)
  try dsimp only [cxOf, Cx.nox, Cx.wish]
  obtain ⟨d, w', p, n, rfl, hn, ok, hz, hw, h0, h1, rfl⟩ := h
  refine ⟨[], ?_⟩
  refine (show XM K _ [some (.d d), some (.d (.int w')), some (.d (.int p)), none, none, none, none] [] _ from ?_)
  refine xm_seq (xm_ifF (tx_is (tx_pure (et_not (et_test (ed_chain (x := true) (y := true) ed_int (ed_var rfl) (ed_rd_is rd_le (by simp; omega)) fun _ => ⟨ed_call (eds_cons (ed_var rfl) (eds_cons (ed_var rfl) eds_nil)) ⟨d, w', n, rfl, hn, ok, hz, hw, rfl⟩, ed_rd_is rd_ltI (by simp; omega)⟩)))) rfl) xm_next) ?_
  refine xm_seq (xm_asg (ex_pure (d := .tuple []) (ed_tup eds_nil))) ?_
  refine (show XM K _ (pst d w' p []) [] _ from ?_)
  refine play_end hN ok hn hz hw h0 h1 (fun f d w p acc ok hf hw => ?_) (fun f d w p acc ok hf hz hw h0 h1 hl => ?_) (fun d' w' p' => xm_ret (ex_var rfl))
  · obtain ⟨l, rfl, hl⟩ := opt_at ok hw
    have sh : SeqAt.shaped (.tuple (optD (.tuple l) w)) = true := (fits_opt ok).shaped (by omega)
    exact tx_is (tx_pure (et_test (ed_op (ed_op (ed_var rfl) (ed_var rfl) (rd_ixUT hl)) (ed_tup eds_nil) (rd_neU sh rfl)))) (by rw [eqv_tup, eqvs_nil])
  · obtain ⟨l, rfl, hl'⟩ := opt_at ok hw
    have oo := opt_ok (w := w) ok
    have so := opt_sz (w := w) ok
    obtain ⟨e, k1, k2, k3, k4⟩ := play_step (f := f) h0 h1
    obtain ⟨c, f1, f2, f3, f4, f5⟩ := find_place _ p h0 h1
    rw [k2]
    have fl : ∀ m, ((cntsD f (.tuple l) w).take (m + 1)).sum = ((cntsD f (.tuple l) w).take m).sum + ((cntsD f (.tuple l) w)[m]?).getD 0 := fun m => by
      rw [List.take_add_one, List.sum_append]
      congr 1
      cases (cntsD f (.tuple l) w)[m]? <;> simp
    generalize hmm : (findM (cntsD f (.tuple l) w) p).1 = m at *
    generalize hqq : (findM (cntsD f (.tuple l) w) p).2 = q at *
    have cat : ∀ (i : Nat) (x : D), (optD (.tuple l) w)[i]? = some x → (cntsD f (.tuple l) w)[i]? = some (cntF f x (1 - w)) := fun i x h => by
      unfold cntsD; rw [List.getElem?_map, h]; rfl
    have ml := (List.getElem?_eq_some_iff.mp k1).1
    have ac := cat m e k1
    rw [f1] at ac
    have ac := Option.some.inj ac
    refine xm_less (n := 0) (ρ1 := [some (.d e), some (.d (.int (1 - w))), some (.d (.int q)), some (.d (.tuple (acc ++ [.int (m : Int)]))), some (.d (.int (m : Int))), some (.d e), some (.d (.int (cntF f e (1 - w))))]) (μ1 := []) ?_ (Nat.le_refl _) rfl rfl (pst_less _ _ _ _)
    refine xm_seq (ρ1 := [some (.d (.tuple l)), some (.d (.int w)), some (.d (.int q)), some (.d (.tuple acc)), some (.d (.int (m : Int))), some (.d e), some (.d (.int (cntF f e (1 - w))))]) (μ1 := []) ?_ ?_
    · refine xm_forET (fun i => pst (.tuple l) w (p - ((cntsD f (.tuple l) w).take i).sum) acc) (fun _ => []) (exs_pure (ds := [.tuple (optD (.tuple l) w)]) (eds_cons (ed_op (ed_var rfl) (ed_var rfl) (rd_ixUT hl')) eds_nil)) (by simp) rfl ⟨m, Nat.le_of_lt ml, fun i x hi hx => ?_, .inr ⟨e, k1, .inr ⟨_, _, rfl, ?_⟩⟩⟩
      · have cx := cat i x hx
        have le := f2 i _ hi cx
        refine xm_less (n := 0) (ρ1 := [some (.d (.tuple l)), some (.d (.int w)), some (.d (.int (p - ((cntsD f (.tuple l) w).take (i + 1)).sum))), some (.d (.tuple acc)), some (.d (.int (i : Int))), some (.d x), some (.d (.int (cntF f x (1 - w))))]) (μ1 := []) ?_ (Nat.le_refl _) rfl rfl (pst_less _ _ _ _)
        refine xm_seq (xm_asg (ex_pure (d := .int (cntF f x (1 - w))) (ed_call (eds_cons (ed_var rfl) (eds_cons (ed_op ed_int (ed_var rfl) rd_sub) eds_nil)) ⟨x, 1 - w, f, rfl, by omega, oo x (List.mem_of_getElem? hx), by have := sz_mem (List.mem_of_getElem? hx); omega, w_turn hw, rfl⟩))) ?_
        refine xm_seq (xm_ifF (tx_is (tx_pure (et_test (ed_op (ed_var rfl) (ed_var rfl) rd_ltI))) (decide_eq_false (by omega))) xm_next) ?_
        refine xm_out (xm_asg (ex_pure (ed_op (ed_var rfl) (ed_var rfl) rd_sub))) ?_
        rw [fl i, cx]
        show OutX.nx _ _ = OutX.nx _ _
        rw [show p - ((cntsD f (.tuple l) w).take i).sum - cntF f x (1 - w) = p - (((cntsD f (.tuple l) w).take i).sum + ((some (cntF f x (1 - w))).getD 0)) by simp only [Option.getD_some]; omega]
        rfl
      · dsimp only
        rw [← f3]
        refine xm_seq (xm_asg (ex_pure (d := .int (cntF f e (1 - w))) (ed_call (eds_cons (ed_var rfl) (eds_cons (ed_op ed_int (ed_var rfl) rd_sub) eds_nil)) ⟨e, 1 - w, f, rfl, by omega, oo e (List.mem_of_getElem? k1), by have := sz_mem (List.mem_of_getElem? k1); omega, w_turn hw, rfl⟩))) ?_
        exact xm_seq_bk (xm_ifT (tx_is (tx_pure (et_test (ed_op (ed_var rfl) (ed_var rfl) rd_ltI))) (decide_eq_true (by omega))) xm_break)
    · refine xm_seq (xm_asg (ex_pure (d := .tuple (acc ++ [.int (m : Int)])) (ed_op (ed_var rfl) (ed_tup (eds_cons (ed_var rfl) eds_nil) (by simp)) (rd_addT (by simp; omega))))) ?_
      refine xm_seq (xm_asg (ex_pure (d := e) (ed_op (ed_op (ed_var rfl) (ed_var rfl) (rd_ixUT hl')) (ed_var rfl) (rd_ixUT (atI_nat k1))))) ?_
      exact xm_asg (ex_pure (d := .int (1 - w)) (ed_op ed_int (ed_var rfl) rd_sub))
end
end LM

set_option Elab.async false
set_option linter.all false
set_option maxRecDepth 100000
set_option maxHeartbeats 4000000
namespace LM
open PySem PySem.Spec PyProof.Rows L2 Evl
/-! ### the play at a match -/
mutual
theorem eqv_self : ∀ d : D, d.canLay0 = true → PyData.eqv d d = true
  | .none, _ => by rw [PyData.eqv]
  | .bool b, _ => by rw [eqv_bool]; simp
  | .int i, _ => by rw [eqv_int]; simp
  | .str x, _ => by rw [eqv_str]; simp
  | .list ds, h => by rw [eqv_list]; exact eqvs_self ds (by simpa [PyData.canLay0] using h)
  | .tuple ds, h => by rw [eqv_tup]; exact eqvs_self ds (by simpa [PyData.canLay0] using h)
  | .dict _, h => by simp [PyData.canLay0] at h
theorem eqvs_self : ∀ ds : List D, PyData.canLayAll0 ds = true → PyData.eqvAll ds ds = true
  | [], _ => by simp [PyData.eqvAll]
  | d :: ds, h => by
    simp only [PyData.canLayAll0, Bool.and_eq_true] at h
    rw [PyData.eqvAll, eqv_self d h.1, eqvs_self ds h.2]; rfl
end
def dAt : D → Int → List Nat → Nat → D × Int
  | d, w, _, 0 => (d, w)
  | d, w, [], _ + 1 => (d, w)
  | d, w, j :: js, i + 1 => dAt (stepD d w j) (1 - w) js i
theorem path_facts {Z : Nat} : ∀ (js : List Nat) (d : D) (w : Int) (f : Nat), validP d w js → okG f d = true → js.length < f → (w = 0 ∨ w = 1) → sz d ≤ Z → ∀ i, i ≤ js.length →
    (∃ g, okG (g + 1) (dAt d w js i).1 = true ∧ g + 1 ≤ f) ∧ ((dAt d w js i).2 = 0 ∨ (dAt d w js i).2 = 1) ∧ sz (dAt d w js i).1 ≤ Z ∧
    (∀ j, js[i]? = some j → (optD (dAt d w js i).1 (dAt d w js i).2)[j]? = some (dAt d w js (i + 1)).1 ∧ (dAt d w js (i + 1)).2 = 1 - (dAt d w js i).2) ∧ (i = js.length → optD (dAt d w js i).1 (dAt d w js i).2 = [])
  | js, d, w, 0, _, ok, _, _, _, _, _ => by cases ok
  | [], d, w, f + 1, hv, ok, _, hw, hz, i, hi => by
    have e : i = 0 := by simpa using hi
    subst e
    exact ⟨⟨f, ok, Nat.le_refl _⟩, hw, hz, fun j h => by simp at h, fun _ => hv⟩
  | j :: js, d, w, f + 1, ⟨hj, hv⟩, ok, hl, hw, hz, 0, _ => by
    have e1 : (optD d w)[j]? = some (stepD d w j) := by
      unfold stepD
      rw [List.getD_eq_getElem?_getD, List.getElem?_eq_getElem hj]; rfl
    refine ⟨⟨f, ok, Nat.le_refl _⟩, hw, hz, fun k hk => ?_, fun h => by simp at h⟩
    have : j = k := by simpa using hk
    subst this
    cases js <;> exact ⟨e1, rfl⟩
  | j :: js, d, w, f + 1, ⟨hj, hv⟩, ok, hl, hw, hz, i + 1, hi => by
    have e1 : (optD d w)[j]? = some (stepD d w j) := by
      unfold stepD
      rw [List.getD_eq_getElem?_getD, List.getElem?_eq_getElem hj]; rfl
    have hm := List.mem_of_getElem? e1
    rw [List.length_cons] at hl hi
    have s1 := sz_mem hm
    have s2 := opt_sz (w := w) ok
    obtain ⟨⟨g, a1, a2⟩, b, c, dd, e⟩ := path_facts (Z := Z) js (stepD d w j) (1 - w) f hv (opt_ok ok _ hm) (by omega) (w_turn hw) (by omega) i (by omega)
    exact ⟨⟨g, a1, by omega⟩, b, c, fun k hk => dd k (by simpa using hk), fun h => e (by rw [List.length_cons] at h; omega)⟩
section
variable (d0 : D) (w0 : Int) (js : List Nat)
def rowR (i : Nat) : D := rowD (dAt d0 w0 js i).1 (dAt d0 w0 js i).2
def rws (m : Nat) : List D := (List.range m).map (rowR d0 w0 js)
def mvs (m : Nat) : List D := natD (js.take m)
def goneG (i : Nat) : D := .tuple [.int ((js.getD i 0 : Nat) : Int), rowR d0 w0 js (i + 1)]
def gns (m : Nat) : List D := (List.range (js.length - m)).map fun t => goneG d0 w0 js (js.length - 1 - t)
def seenD (m : Nat) (gn : List D) : D := .tuple [rowR d0 w0 js m, .tuple (mvs js m), .tuple [.int ((mvs js m).length : Int), .int (gn.length : Int)], .bool (optD (dAt d0 w0 js m).1 (dAt d0 w0 js m).2).isEmpty]
theorem rws_succ (m : Nat) : rws d0 w0 js (m + 1) = rws d0 w0 js m ++ [rowR d0 w0 js m] := by
  unfold rws
  rw [List.range_succ, List.map_append]; rfl
theorem rws_cons (m : Nat) : ∃ t, rws d0 w0 js (m + 1) = .tuple [d0, .int w0] :: t := by
  unfold rws
  have : rowR d0 w0 js 0 = .tuple [d0, .int w0] := by
    unfold rowR
    cases js <;> rfl
  rw [List.range_succ_eq_map, List.map_cons, this]
  exact ⟨_, rfl⟩
theorem mvs_succ {m j : Nat} (h : js[m]? = some j) : mvs js (m + 1) = mvs js m ++ [.int (j : Int)] := by
  unfold mvs natD
  rw [List.take_add_one, h, List.map_append]; rfl
theorem mvs_ints (m : Nat) : mvs js m = intsD ((js.take m).map fun (j : Nat) => (j : Int)) := by
  unfold mvs natD intsD
  rw [List.map_map]; rfl
theorem mvs_all : mvs js js.length = natD js := by unfold mvs; rw [List.take_length]
theorem mvs_len {m : Nat} (h : m ≤ js.length) : (mvs js m).length = m := by
  unfold mvs natD
  rw [List.length_map, List.length_take]; omega
theorem gns_len (m : Nat) : (gns d0 w0 js m).length = js.length - m := by
  unfold gns
  rw [List.length_map, List.length_range]
theorem gns_all : gns d0 w0 js js.length = [] := by
  unfold gns
  rw [Nat.sub_self]; rfl
theorem gns_succ {m : Nat} (h : m < js.length) : gns d0 w0 js m = gns d0 w0 js (m + 1) ++ [goneG d0 w0 js m] := by
  unfold gns
  rw [show js.length - m = (js.length - (m + 1)) + 1 by omega, List.range_succ, List.map_append]
  congr 1
  rw [List.map_cons, List.map_nil, show js.length - 1 - (js.length - (m + 1)) = m by omega]
end
end LM

set_option Elab.async false
set_option linter.all false
set_option maxRecDepth 100000
set_option maxHeartbeats 4000000
namespace LM
open PySem PySem.Spec PyProof.Rows L2 Evl
/-! ### the law's steps at a match -/
structure PathOk (d0 : D) (w0 : Int) (js : List Nat) : Prop where
  okP : ∀ i, i ≤ js.length → ∃ g, okG (g + 1) (dAt d0 w0 js i).1 = true ∧ g ≤ 5
  wP : ∀ i, i ≤ js.length → (dAt d0 w0 js i).2 = 0 ∨ (dAt d0 w0 js i).2 = 1
  szP : ∀ i, i ≤ js.length → sz (dAt d0 w0 js i).1 ≤ 3000
  stP : ∀ i j, js[i]? = some j → (optD (dAt d0 w0 js i).1 (dAt d0 w0 js i).2)[j]? = some (dAt d0 w0 js (i + 1)).1 ∧ (dAt d0 w0 js (i + 1)).2 = 1 - (dAt d0 w0 js i).2
  enP : optD (dAt d0 w0 js js.length).1 (dAt d0 w0 js js.length).2 = []
  ln : js.length ≤ 5
theorem path_ok {js : List Nat} {d0 : D} {w0 : Int} (hv : validP d0 w0 js) (ok : okG 6 d0 = true) (hl : js.length < 6) (hw : w0 = 0 ∨ w0 = 1) (hz : sz d0 ≤ 3000) : PathOk d0 w0 js := by
  have h := path_facts js d0 w0 6 hv ok hl hw hz
  refine ⟨fun i hi => ?_, fun i hi => (h i hi).2.1, fun i hi => (h i hi).2.2.1, fun i j hj => ?_, (h js.length (Nat.le_refl _)).2.2.2.2 rfl, by omega⟩
  · obtain ⟨g, h1, h2⟩ := (h i hi).1
    exact ⟨g, h1, by omega⟩
  · have hi := (List.getElem?_eq_some_iff.mp hj).1
    exact (h i (Nat.le_of_lt hi)).2.2.2.1 j hj
abbrev stM (C : Addr) (d0 : D) (w0 : Int) (js : List Nat) (m : Nat) (gn : List D) : MO := .ins C (mf (rws d0 w0 js (m + 1)) (mvs js m) gn)
theorem set_same {α : Type} {l : List α} {n : Nat} {x : α} (h : l[n]? = some x) : l.set n x = l := by
  refine List.ext_getElem? fun k => ?_
  by_cases e : n = k
  · subst e
    rw [List.getElem?_set_self (List.getElem?_eq_some_iff.mp h).1, h]
  · rw [List.getElem?_set_ne e]
section
variable {d0 : D} {w0 : Int} {js : List Nat}
theorem fit_row (p : PathOk d0 w0 js) {i : Nat} (hi : i ≤ js.length) : fitD 20 (rowR d0 w0 js i) := by
  obtain ⟨g, ok, hg⟩ := p.okP i hi
  have h1 := ok_fit ok
  refine (fit_tup (n := 19)).mpr fun x hx => ?_
  rcases List.mem_cons.mp hx with z | z
  · rw [z]; exact h1.mono (by omega)
  · rw [List.mem_singleton.mp z]; exact fit_int
theorem fit_natD (n : Nat) (js : List Nat) : fitD (n + 1) (.tuple (natD js)) := fit_tup.mpr fun x hx => by
  obtain ⟨j, _, rfl⟩ := List.mem_map.mp hx
  exact fit_int
theorem fit_seen (p : PathOk d0 w0 js) {m : Nat} (hm : m ≤ js.length) (gn : List D) : fitD 30 (seenD d0 w0 js m gn) := by
  refine (fit_tup (n := 29)).mpr fun x hx => ?_
  simp only [List.mem_cons, List.not_mem_nil, or_false] at hx
  rcases hx with z | z | z | z
  · rw [z]; exact (fit_row p hm).mono (by decide)
  · rw [z]; exact fit_natD 28 _
  · rw [z]
    exact (fit_tup (n := 28)).mpr fun y hy => by
      rcases List.mem_cons.mp hy with e | e
      · rw [e]; exact fit_int
      · rw [List.mem_singleton.mp e]; exact fit_int
  · rw [z]; exact fit_bool
theorem fit_gone (p : PathOk d0 w0 js) (m : Nat) : ∀ g ∈ gns d0 w0 js m, fitD 40 g := fun g hg => by
  obtain ⟨t, ht, rfl⟩ := List.mem_map.mp hg
  have := List.mem_range.mp ht
  refine (fit_tup (n := 39)).mpr fun x hx => ?_
  rcases List.mem_cons.mp hx with e | e
  · rw [e]; exact fit_int
  · rw [List.mem_singleton.mp e]; exact (fit_row p (by omega)).mono (by decide)
end
section
variable {K : PySem.W.Frag} {ρ : Rx} {μ : Mu} {C : Addr} {d0 : D} {w0 : Int} {js : List Nat} {gn : List D} {i n m : Nat} {x y : D}
theorem ex_standM (hi : ρ[i]? = some (some (.o n))) (hm : μ[n]? = some (stM C d0 w0 js m gn)) : EX K (tMeth C "standing" (SpM K (RMStand C)) [] E0 (tVar i) tNil) ρ μ (.d (rowR d0 w0 js m)) μ := by
  have h := hm
  rw [stM, rws_succ] at h
  exact ex_mu (ex_mm hi h (by decide +kernel) (by decide +kernel) (by decide +kernel) (ds := []) exs_nil ⟨rws d0 w0 js m, rowR d0 w0 js m, mvs js m, gn, rfl, rfl, rfl, rfl⟩) (set_same h)
theorem ex_movesM (hi : ρ[i]? = some (some (.o n))) (hm : μ[n]? = some (stM C d0 w0 js m gn)) : EX K (tMeth C "moves" (SpM K (RMMoves C)) [] E0 (tVar i) tNil) ρ μ (.d (.tuple (mvs js m))) μ :=
  ex_mu (ex_mm hi hm (by decide +kernel) (by decide +kernel) (by decide +kernel) (ds := []) exs_nil ⟨_, mvs js m, gn, rfl, rfl, rfl, rfl⟩) (set_same hm)
theorem ex_tallyM (hi : ρ[i]? = some (some (.o n))) (hm : μ[n]? = some (stM C d0 w0 js m gn)) : EX K (tMeth C "tally" (SpM K (RMTally C)) [] E0 (tVar i) tNil) ρ μ (.d (.tuple [.int ((mvs js m).length : Int), .int (gn.length : Int)])) μ :=
  ex_mu (ex_mm hi hm (by decide +kernel) (by decide +kernel) (by decide +kernel) (ds := []) exs_nil ⟨_, mvs js m, gn, rfl, rfl, rfl, rfl⟩) (set_same hm)
theorem ex_overM (p : PathOk d0 w0 js) (hml : m ≤ js.length) (hi : ρ[i]? = some (some (.o n))) (hm : μ[n]? = some (stM C d0 w0 js m gn)) : EX K (tMeth C "is_over" (SpM K (RMOver C)) [] E0 (tVar i) tNil) ρ μ (.d (.bool (optD (dAt d0 w0 js m).1 (dAt d0 w0 js m).2).isEmpty)) μ := by
  have h := hm
  rw [stM, rws_succ] at h
  obtain ⟨g, ok, hg⟩ := p.okP m hml
  exact ex_mu (ex_mm hi h (by decide +kernel) (by decide +kernel) (by decide +kernel) (ds := []) exs_nil ⟨rws d0 w0 js m, _, _, g, mvs js m, gn, rfl, rfl, ok, by omega, p.wP m hml, rfl, rfl⟩) (set_same h)
theorem ex_moveM (p : PathOk d0 w0 js) {j : Nat} (hj : js[m]? = some j) {ta : TA} (ha : EXs K ta ρ μ [.d (.int (j : Int))] μ) (hi : ρ[i]? = some (some (.o n))) (hm : μ[n]? = some (stM C d0 w0 js m gn)) :
    EX K (tMeth C "move" (SpM K (RMMove C)) [] E0 (tVar i) ta) ρ μ (.d (dAt d0 w0 js (m + 1)).1) (μ.set n (stM C d0 w0 js (m + 1) [])) := by
  have h := hm
  rw [stM, rws_succ] at h
  have hml := (List.getElem?_eq_some_iff.mp hj).1
  obtain ⟨g, ok, hg⟩ := p.okP m (Nat.le_of_lt hml)
  obtain ⟨s1, s2⟩ := p.stP m j hj
  have z := p.szP m (Nat.le_of_lt hml)
  have l1 : (rws d0 w0 js m).length = m := by unfold rws; rw [List.length_map, List.length_range]
  have l2 := mvs_len js (Nat.le_of_lt hml)
  have l3 := p.ln
  refine ex_mu (ex_mm (rs' := rws d0 w0 js (m + 1) ++ [rowD (dAt d0 w0 js (m + 1)).1 (1 - (dAt d0 w0 js m).2)]) (mv' := mvs js m ++ [.int (j : Int)]) (gn' := []) hi h (by decide +kernel) (by decide +kernel) (by decide +kernel) (ds := [.int (j : Int)]) ha ⟨rws d0 w0 js m, _, _, g, mvs js m, gn, j, _, rfl, rfl, ok, by omega, p.wP m (Nat.le_of_lt hml), s1, by omega, by omega, rfl, by rw [rws_succ]; rfl⟩) ?_
  rw [← s2, ← mvs_succ js hj]
  rw [stM, rws_succ d0 w0 js (m + 1)]
  rfl
theorem ex_backM (p : PathOk d0 w0 js) {j : Nat} (hj : js[m]? = some j) (hi : ρ[i]? = some (some (.o n))) (hm : μ[n]? = some (stM C d0 w0 js (m + 1) (gns d0 w0 js (m + 1)))) :
    EX K (tMeth C "back" (SpM K (RMBack C)) [] E0 (tVar i) tNil) ρ μ (.d (.int (j : Int))) (μ.set n (stM C d0 w0 js m (gns d0 w0 js m))) := by
  have h := hm
  rw [stM, rws_succ, mvs_succ js hj, mvs_ints] at h
  have hml := (List.getElem?_eq_some_iff.mp hj).1
  have l2 := mvs_len js (Nat.le_of_lt hml)
  have l3 := p.ln
  have l4 := gns_len d0 w0 js (m + 1)
  refine ex_mu (ex_mm (rs' := rws d0 w0 js (m + 1)) (mv' := mvs js m) (gn' := gns d0 w0 js m) hi h (by decide +kernel) (by decide +kernel) (by decide +kernel) (ds := []) exs_nil ⟨rws d0 w0 js (m + 1), _, gns d0 w0 js (m + 1), (js.take m).map fun (j : Nat) => (j : Int), (j : Int), rfl, rfl, by rw [List.length_map, List.length_take]; omega, by omega, rfl, ?_⟩) rfl
  rw [gns_succ d0 w0 js hml, mvs_ints]
  have : goneG d0 w0 js m = .tuple [.int (j : Int), rowR d0 w0 js (m + 1)] := by
    unfold goneG
    rw [List.getD_eq_getElem?_getD, hj]; rfl
  rw [this]
theorem ex_forthM (p : PathOk d0 w0 js) {j : Nat} (hj : js[m]? = some j) (hi : ρ[i]? = some (some (.o n))) (hm : μ[n]? = some (stM C d0 w0 js m (gns d0 w0 js m))) :
    EX K (tMeth C "forth" (SpM K (RMForth C)) [] E0 (tVar i) tNil) ρ μ (.d (.int (j : Int))) (μ.set n (stM C d0 w0 js (m + 1) (gns d0 w0 js (m + 1)))) := by
  have h := hm
  have hml := (List.getElem?_eq_some_iff.mp hj).1
  have this : goneG d0 w0 js m = .tuple [.int (j : Int), rowR d0 w0 js (m + 1)] := by
    unfold goneG
    rw [List.getD_eq_getElem?_getD, hj]; rfl
  rw [stM, gns_succ d0 w0 js hml, this] at h
  have l1 : (rws d0 w0 js (m + 1)).length = m + 1 := by unfold rws; rw [List.length_map, List.length_range]
  have l2 := mvs_len js (Nat.le_of_lt hml)
  have l3 := p.ln
  refine ex_mu (ex_mm (rs' := rws d0 w0 js (m + 1) ++ [rowR d0 w0 js (m + 1)]) (mv' := mvs js m ++ [.int (j : Int)]) (gn' := gns d0 w0 js (m + 1)) hi h (by decide +kernel) (by decide +kernel) (by decide +kernel) (ds := []) exs_nil ⟨rws d0 w0 js (m + 1), _, mvs js m, gns d0 w0 js (m + 1), (j : Int), rfl, rfl, fit_gone p _, (fit_row p hml).mono (by decide), by omega, by omega, rfl, rfl⟩) ?_
  rw [← mvs_succ js hj, ← rws_succ]
theorem back1 {m' : MO} (hn : n < μ.length) (hc : renM [n] μ.length m' = m') : back [n] μ [m'] = μ.set n m' := by
  unfold back
  have e2 : (([m'] : Mu).drop ([n] : List Nat).length).map (renM [n] μ.length) = [] := rfl
  rw [e2, List.append_nil]
  refine List.ext_getElem? fun k => ?_
  rw [List.getElem?_set]
  by_cases hk : k < μ.length
  · rw [List.getElem?_map, List.getElem?_range hk]
    simp only [Option.map_some]
    by_cases e : n = k
    · subst e
      rw [if_pos rfl, if_pos hk]
      have : posN n [n] = some 0 := by unfold posN; rw [if_pos rfl]
      rw [this]
      show some (renM [n] μ.length m') = _
      rw [hc]
    · rw [if_neg e]
      have : posN k [n] = none := by unfold posN; rw [if_neg e]; rfl
      rw [this]
      show some (μ.getD k (.lst [])) = μ[k]?
      rw [List.getD_eq_getElem?_getD, List.getElem?_eq_getElem hk]; rfl
  · rw [List.getElem?_eq_none (by rw [List.length_map, List.length_range]; omega), if_neg (by omega), List.getElem?_eq_none (by omega)]
theorem ex_seenM (p : PathOk d0 w0 js) (hml : m ≤ js.length) (hi : ρ[i]? = some (some (.o n))) (hm : μ[n]? = some (stM C d0 w0 js m gn)) : EX K (tCall (SpM K (RMSeen C)) [] E0 (tCons (tVar i) tNil)) ρ μ (.d (seenD d0 w0 js m gn)) μ := by
  have h := hm
  rw [stM, rws_succ] at h
  obtain ⟨g, ok, hg⟩ := p.okP m hml
  have hn := (List.getElem?_eq_some_iff.mp hm).1
  have h2 := ex_callM (K := K) (E := E0) (ρ := ρ) (μ := μ) (xs := [.o 0]) (ta := tCons (tVar i) tNil) [n] (exs_cons (ex_var hi) exs_nil) (by simp) (by simpa using hn) (seenN n h rfl rfl) (fun y hy => by rw [List.mem_singleton.mp hy]; exact Nat.zero_lt_one) (R := RMSeen C) ⟨rws d0 w0 js m, _, _, g, mvs js m, gn, rfl, rfl, ok, by omega, p.wP m hml, rfl, rfl⟩
  exact ex_mu h2 ((back1 hn rfl).trans (set_same h))
/-- two data that are to be alike -/
theorem tx_ne {ta tb : TE} {μ1 μ2 : Mu} (ha : EX K ta ρ μ (.d x) μ1) (hb : EX K tb ρ μ1 (.d y) μ2) (fx : fitD 60 x) (e : x = y) : TX K (tTest (tOp (rNeU K) ta tb)) ρ μ false μ2 := by
  subst e
  refine tx_is (tx_test (ex_op ha hb (rd_neU (fx.shaped (by decide)) (fx.shaped (by decide))))) ?_
  rw [eqv_self x fx.1]; rfl
theorem ex_eq {ta tb : TE} {μ1 μ2 : Mu} (ha : EX K ta ρ μ (.d x) μ1) (hb : EX K tb ρ μ1 (.d y) μ2) (fx : fitD 60 x) (e : x = y) : EX K (tOp (rEqU K) ta tb) ρ μ (.d (.bool true)) μ2 := by
  subst e
  refine ex_it (ex_op ha hb (rd_eqU (fx.shaped (by decide)) (fx.shaped (by decide)))) ?_
  rw [eqv_self x fx.1]
end
theorem rd_isnotBl {K : PySem.W.Frag} {a b : Bool} : RD K (fun x y H Q => ∃ a b, x = .bl a ∧ y = .bl b ∧ Q (.bl (!decide (a = b))) H) (.bool a) (.bool b) (.bool (!decide (a = b))) := fun H Hm x y s hx hy Q q => ⟨a, b, dp_bool hx, dp_bool hy, q _ H Hm (Gr.refl s) (.bl _)⟩
def Rts (K : PySem.W.Frag) (t : TS) (ρ : Rx) (μ : Mu) (x : SV) : Prop := ∃ μ', XM K t ρ μ (.rt x μ')
theorem rts_seq {K : PySem.W.Frag} {t u : TS} {ρ ρ1 : Rx} {μ μ1 : Mu} {x : SV} (h : XM K t ρ μ (.nx ρ1 μ1)) (k : Rts K u ρ1 μ1 x) : Rts K (tSeq t u) ρ μ x := by
  obtain ⟨μ', k⟩ := k
  exact ⟨μ', xm_seq h k⟩
theorem rts_ret {K : PySem.W.Frag} {te : TE} {ρ : Rx} {μ μ1 : Mu} {x : SV} (h : EX K te ρ μ x μ1) : Rts K (tRet te) ρ μ x := ⟨_, xm_ret h⟩
section
variable {C : Addr} {d0 : D} {w0 : Int} {js : List Nat}
theorem row0 : rowR d0 w0 js 0 = .tuple [d0, .int w0] := by
  unfold rowR
  cases js <;> rfl
theorem dat0 : (dAt d0 w0 js 0).1 = d0 ∧ (dAt d0 w0 js 0).2 = w0 := by cases js <;> exact ⟨rfl, rfl⟩
theorem stM0 : stM C d0 w0 js 0 [] = .ins C (mf [.tuple [d0, .int w0]] [] []) := by
  have e1 : rws d0 w0 js (0 + 1) = [rowR d0 w0 js 0] := rfl
  rw [stM, e1, row0]
  rfl
def glD (js : List Nat) (L : Nat) : List D := (List.range L).map fun t => PyData.int ((js.getD (js.length - 1 - t) 0 : Nat) : Int)
theorem gl_succ (L : Nat) : glD js (L + 1) = glD js L ++ [.int ((js.getD (js.length - 1 - L) 0 : Nat) : Int)] := by
  unfold glD
  rw [List.range_succ, List.map_append]; rfl
theorem gl_len (L : Nat) : (glD js L).length = L := by unfold glD; rw [List.length_map, List.length_range]
theorem gl_rev : ∀ L, L ≤ js.length → (glD js L).reverse = natD (js.drop (js.length - L))
  | 0, _ => by
    rw [Nat.sub_zero, List.drop_length]; rfl
  | L + 1, h => by
    have hl : js.length - (L + 1) < js.length := by omega
    rw [gl_succ, List.reverse_append, gl_rev L (by omega), List.drop_eq_getElem_cons hl, show js.length - (L + 1) + 1 = js.length - L by omega]
    have e : js.getD (js.length - 1 - L) 0 = js[js.length - (L + 1)] := by
      rw [List.getD_eq_getElem?_getD, show js.length - 1 - L = js.length - (L + 1) by omega, List.getElem?_eq_getElem hl]; rfl
    rw [e]; rfl
theorem gl_all : glD js js.length = (natD js).reverse := by
  have h := gl_rev (js := js) js.length (Nat.le_refl _)
  rw [Nat.sub_self, List.drop_zero] at h
  rw [← h, List.reverse_reverse]
theorem getD_at' {i : Nat} (h : i < js.length) : js[i]? = some (js.getD i 0) := by
  rw [List.getD_eq_getElem?_getD, List.getElem?_eq_getElem h]; rfl
theorem nat_take (i : Nat) : (natD js).take i = natD (js.take i) := by unfold natD; rw [List.map_take]
theorem nat_drop (i : Nat) : (natD js).drop i = natD (js.drop i) := by unfold natD; rw [List.map_drop]
theorem nat_succ {l : List Nat} {i j : Nat} (h : l[i]? = some j) : natD (l.take (i + 1)) = natD (l.take i) ++ [.int (j : Int)] := by
  unfold natD
  rw [List.take_add_one, h, List.map_append]; rfl
end
theorem fit_lst_of {n : Nat} {ds : List D} (h : fitD (n + 1) (.tuple ds)) : fitD (n + 1) (.list ds) := fit_lst.mpr (fit_tup.mp h)
end LM

set_option Elab.async false
set_option linter.all false
set_option maxRecDepth 100000
set_option maxHeartbeats 4000000
namespace LM
open PySem PySem.Spec PyProof.Rows L2 Evl
/-! ### law -/
abbrev sLaw : Stmt := topS 19
abbrev nLaw : List Str := ["_law_script", "_law_game_here", "_law_who", "_law_play", "_law_match", "_law_at", "_law_k", "_law_few", "_law_gone", "_law_other", "_law_seen_here", "_law_last"]
theorem scLaw : FnScope nLaw ["_law_script"] (defScope sLaw) := ⟨rfl, rfl, rfl, by decide +kernel, rfl, by decide +kernel, by decide +kernel⟩
section
variable {P : Program} {w : World} {K : PySem.W.Frag} {mg : Str → Option Value} {base : Heap} {f C : Addr} {fd : FuncData} {k j : Nat}
theorem has_law (B : BI mg) (T : MFacts K C) (F : Fun K "law" "law" sLaw f fd)
    (h__law_game : Has P w K mg base k "_law_game" (SpR K (RGame 6))) (h__law_mixed : Has P w K mg base k "_law_mixed" (SpR K RMixed)) (h_count_plays : Has P w K mg base k "count_plays" (SpR K (RCount 7))) (h_play_at : Has P w K mg base k "play_at" (SpR K (RPlayAt 7)))
    (mk_Match : HasMk P w K mg base j "Match" C (SpM K (RMInit C))) (hk : j + 1 ≤ k) (h_Match_standing : HasM P w K mg base k C "standing" (SpM K (RMStand C))) (h_Match_moves : HasM P w K mg base k C "moves" (SpM K (RMMoves C))) (h_Match_tally : HasM P w K mg base k C "tally" (SpM K (RMTally C)))
    (h_Match_is_over : HasM P w K mg base k C "is_over" (SpM K (RMOver C))) (h_Match_move : HasM P w K mg base k C "move" (SpM K (RMMove C))) (h_Match_back : HasM P w K mg base k C "back" (SpM K (RMBack C))) (h_Match_forth : HasM P w K mg base k C "forth" (SpM K (RMForth C)))
    (h_Match_twin : HasM P w K mg base k C "twin" (SpM K (RMTwin C))) (h__law_seen : Has P w K mg base k "_law_seen" (SpM K (RMSeen C))) :
    FnOk P w K mg base CX0 (k + 1) f fd ["_law_script"] (SpR K RLaw) := by
  have cl_Match := T.cl
  refine fn_ofP F scLaw (by decide) (fun ds r h => by obtain ⟨_, rfl, _⟩ := h; rfl) (fun cdv A outer s H E hr => ⟨_, (pss_cons (ps_set (i := 1) scLaw.nd rfl (by first | exact .inl rfl | exact .inr rfl) (pe_h h__law_game hr (by omega) (by rfl) (pa_cons (pe_h h__law_mixed hr (by omega) (by rfl) (pa_cons (pv 0) (pa_cons pe_int pa_nil))) (pa_cons (pe_op (op_addK K rfl) pe_int (pe_op op_mod (pe_h h__law_mixed hr (by omega) (by rfl) (pa_cons (pv 0) (pa_cons pe_int pa_nil))) pe_int)) pa_nil))))
    (pss_cons (ps_set (i := 2) scLaw.nd rfl (by first | exact .inl rfl | exact .inr rfl) (pe_op op_mod (pe_h h__law_mixed hr (by omega) (by rfl) (pa_cons (pv 0) (pa_cons pe_int pa_nil))) pe_int))
    (pss_cons (ps_set (i := 3) scLaw.nd rfl (by first | exact .inl rfl | exact .inr rfl) (pe_h h_play_at hr (by omega) (by rfl) (pa_cons (pv 1) (pa_cons (pv 2) (pa_cons (pe_op op_mod (pe_h h__law_mixed hr (by omega) (by rfl) (pa_cons (pv 0) (pa_cons pe_int pa_nil))) (pe_h h_count_plays hr (by omega) (by rfl) (pa_cons (pv 1) (pa_cons (pv 2) pa_nil)))) pa_nil)))))
    (pss_cons (ps_set (i := 4) scLaw.nd rfl (by first | exact .inl rfl | exact .inr rfl) (pe_mk mk_Match hr (by omega) (by rfl) (pa_cons (pv 1) (pa_cons (pv 2) pa_nil))))
    (pss_cons (ps_if (pt_cmpR (op_neK K rfl (hu64 hr)) (pe_h h__law_seen hr (by omega) (by rfl) (pa_cons (pv 4) pa_nil)) (pe_tup (pa_cons (pe_tup (pa_cons (pv 1) (pa_cons (pv 2) pa_nil))) (pa_cons (pe_tup pa_nil) (pa_cons (pe_tup (pa_cons pe_int (pa_cons pe_int pa_nil))) (pa_cons (pe_cmpR (op_eqK K rfl (hu64 hr)) (pv 3) (pe_tup pa_nil) (nomark _)) pa_nil))))) (nomark _)) (pss_one (ps_ret pe_bl)) pss_nil)
    (pss_cons (ps_for PassesOwn.never rfl (pi_enumT K rfl (by rfl) B.enumerate (pa_cons (pv 3) pa_nil)) (pg_tupK K rfl (pg_tup (n := 2) rfl (pgs_cons (pg_name (i := 5) scLaw.nd rfl (by first | exact .inl rfl | exact .inr rfl)) (pgs_cons (pg_name (i := 6) scLaw.nd rfl (by first | exact .inl rfl | exact .inr rfl)) pgs_nil)))) (pss_one (ps_if (pw_or (pt_val (pe_hm0 h_Match_is_over cl_Match hr (by omega) (pv 4))) (pw_or (pt_cmpR (op_neK K rfl (hu64 hr)) (pe_hm h_Match_move cl_Match hr (by omega) (pv 4) (pa_cons (pv 6) pa_nil)) (pe_ix (ix_K K rfl) (pe_hm0 h_Match_standing cl_Match hr (by omega) (pv 4)) pe_int (fun _ _ => rfl)) (nomark _)) (pw_or1 (pt_cmpR (op_neK K rfl (hu64 hr)) (pe_hm0 h_Match_moves cl_Match hr (by omega) (pv 4)) (pe_slice (sl_K K rfl) (pv 3) po_none (po_some (pe_op (op_addK K rfl) (pv 5) pe_int))) (nomark _))))).pt (pss_one (ps_ret pe_bl)) pss_nil)))
    (pss_cons (ps_if (pt_cmpR op_isnot_bl (pe_hm0 h_Match_is_over cl_Match hr (by omega) (pv 4)) pe_bl (nomark _)) (pss_one (ps_ret pe_bl)) pss_nil)
    (pss_cons (ps_set (i := 7) scLaw.nd rfl (by first | exact .inl rfl | exact .inr rfl) (pe_op op_mod (pe_h h__law_mixed hr (by omega) (by rfl) (pa_cons (pv 0) (pa_cons pe_int pa_nil))) (pe_op (op_addK K rfl) (pe_callB (call_lenK K rfl) (by rfl) B.len boot_len (pa_cons (pv 3) pa_nil)) pe_int)))
    (pss_cons (ps_setLc (own := [("_law_k", 6)]) rfl scLaw.nd (i := 8) rfl rfl (by rfl) (pi_range1 (by rfl) B.range (pa_cons (pv 7) pa_nil)) (blkOk_by (N := nLaw) (sc := defScope sLaw) (by decide +kernel)) (fun _ _ _ _ _ => (pg_name (i := 6) scLaw.nd rfl (by first | exact .inl rfl | exact .inr rfl))) (fun _ _ _ _ _ => pts_nil) (fun _ _ _ _ _ => (pe_hm0 h_Match_back cl_Match hr (by omega) (pv 4))))
    (pss_cons (ps_if (pt_cmpR (op_neK K rfl (hu64 hr)) (pe_callTy (call_tupleK K rfl) (by rfl) B.tuple boot_tuple (pa_cons (pe_revLK K rfl (pv 8)) pa_nil)) (pe_slice (sl_K K rfl) (pv 3) (po_some (pe_op op_sub (pe_callB (call_lenK K rfl) (by rfl) B.len boot_len (pa_cons (pv 3) pa_nil)) (pv 7))) po_none) (nomark _)) (pss_one (ps_ret pe_bl)) pss_nil)
    (pss_cons (ps_set (i := 9) scLaw.nd rfl (by first | exact .inl rfl | exact .inr rfl) (pe_hm0 h_Match_twin cl_Match hr (by omega) (pv 4)))
    (pss_cons (ps_set (i := 10) scLaw.nd rfl (by first | exact .inl rfl | exact .inr rfl) (pe_h h__law_seen hr (by omega) (by rfl) (pa_cons (pv 4) pa_nil)))
    (pss_cons (ps_if (pw_or (pt_cmpR (op_neK K rfl (hu64 hr)) (pe_h h__law_seen hr (by omega) (by rfl) (pa_cons (pv 9) pa_nil)) (pv 10) (nomark _)) (pw_or (pt_cmpR (op_neK K rfl (hu64 hr)) (pe_lc (own := [("_law_k", 6)]) rfl scLaw.nd (pi_range1 (by rfl) B.range (pa_cons (pv 7) pa_nil)) (blkOk_by (N := nLaw) (sc := defScope sLaw) (by decide +kernel)) (fun _ _ _ _ _ => (pg_name (i := 6) scLaw.nd rfl (by first | exact .inl rfl | exact .inr rfl))) (fun _ _ _ _ _ => pts_nil) (fun _ _ _ _ _ => (pe_hm0 h_Match_forth cl_Match hr (by omega) (pv 9)))) (pe_revLK K rfl (pv 8)) (nomark _)) (pw_or1 (pt_cmpR (op_neK K rfl (hu64 hr)) (pe_h h__law_seen hr (by omega) (by rfl) (pa_cons (pv 4) pa_nil)) (pv 10) (nomark _))))).pt (pss_one (ps_ret pe_bl)) pss_nil)
    (pss_cons (ps_set (i := 11) scLaw.nd rfl (by first | exact .inl rfl | exact .inr rfl) (pe_h h__law_seen hr (by omega) (by rfl) (pa_cons (pv 9) pa_nil)))
    (pss_cons (ps_if (pw_or (pt_cmpR (op_neK K rfl (hu64 hr)) (pe_ix (ix_K K rfl) (pv 11) pe_int (fun _ _ => rfl)) (pv 3) (nomark _)) (pw_or (pt_cmpR (op_neK K rfl (hu64 hr)) (pe_ix (ix_K K rfl) (pv 11) pe_int (fun _ _ => rfl)) (pe_tup (pa_cons (pe_callB (call_lenK K rfl) (by rfl) B.len boot_len (pa_cons (pv 3) pa_nil)) (pa_cons pe_int pa_nil))) (nomark _)) (pw_or1 (pt_cmpR op_isnot_bl (pe_ix (ix_K K rfl) (pv 11) pe_int (fun _ _ => rfl)) pe_bl (nomark _))))).pt (pss_one (ps_ret pe_bl)) pss_nil)
    (pss_cons (ps_if (pw_or (pt_cmpR (op_neK K rfl (hu64 hr)) (pe_lc (own := [("_law_k", 6)]) rfl scLaw.nd (pi_tupK K rfl (pv 3)) (blkOk_by (N := nLaw) (sc := defScope sLaw) (by decide +kernel)) (fun _ _ _ _ _ => (pg_name (i := 6) scLaw.nd rfl (by first | exact .inl rfl | exact .inr rfl))) (fun _ _ _ _ _ => pts_nil) (fun _ _ _ _ _ => (pe_hm0 h_Match_back cl_Match hr (by omega) (pv 9)))) (pe_callTy (call_listK K rfl) (by rfl) B.list boot_list (pa_cons (pe_revT K rfl (pv 3)) pa_nil)) (nomark _)) (pw_or1 (pt_cmpR (op_neK K rfl (hu64 hr)) (pe_hm0 h_Match_standing cl_Match hr (by omega) (pv 9)) (pe_tup (pa_cons (pv 1) (pa_cons (pv 2) pa_nil))) (nomark _)))).pt (pss_one (ps_ret pe_bl)) pss_nil)
    (pss_cons (ps_if (pw_or (pt_cmpR (op_neK K rfl (hu64 hr)) (pe_lc (own := [("_law_k", 6)]) rfl scLaw.nd (pi_tupK K rfl (pv 3)) (blkOk_by (N := nLaw) (sc := defScope sLaw) (by decide +kernel)) (fun _ _ _ _ _ => (pg_name (i := 6) scLaw.nd rfl (by first | exact .inl rfl | exact .inr rfl))) (fun _ _ _ _ _ => pts_nil) (fun _ _ _ _ _ => (pe_hm0 h_Match_forth cl_Match hr (by omega) (pv 9)))) (pe_callTy (call_listK K rfl) (by rfl) B.list boot_list (pa_cons (pv 3) pa_nil)) (nomark _)) (pw_or1 (pt_cmpR (op_neK K rfl (hu64 hr)) (pe_h h__law_seen hr (by omega) (by rfl) (pa_cons (pv 9) pa_nil)) (pv 11) (nomark _)))).pt (pss_one (ps_ret pe_bl)) pss_nil)
    (pss_cons (ps_for PassesOwn.never rfl (pi_listK K rfl (pe_slice (sl_K K rfl) (pe_revLK K rfl (pv 8)) po_none (po_some pe_int))) (pg_name (i := 6) scLaw.nd rfl (by first | exact .inl rfl | exact .inr rfl)) (pss_one (ps_expr (pe_hm h_Match_move cl_Match hr (by omega) (pv 4) (pa_cons (pv 6) pa_nil)))))
    (pss_one (ps_ret (pe_and (pe_cmpR (op_eqK K rfl (hu64 hr)) (pe_hm0 h_Match_tally cl_Match hr (by omega) (pv 4)) (pe_tup (pa_cons (pe_op op_sub (pe_callB (call_lenK K rfl) (by rfl) B.len boot_len (pa_cons (pv 3) pa_nil)) (pe_callB (call_max2 rfl) (by rfl) B.max boot_max (pa_cons (pe_op op_sub (pv 7) pe_int) (pa_cons pe_int pa_nil)))) (pa_cons pe_int pa_nil))) (nomark _)) (pe_one (pe_cmpR (op_eqK K rfl (hu64 hr)) (pe_h h__law_seen hr (by omega) (by rfl) (pa_cons (pv 9) pa_nil)) (pv 11) (nomark _)))))))))))))))))))))))), fun ds r h => ?_⟩)
  try dsimp only [cxOf, Cx.nox, Cx.wish]
  obtain ⟨ns, rfl, rfl⟩ := h
  refine (show Rts K _ [some (.d (.list (ns.map PyData.int))), none, none, none, none, none, none, none, none, none, none, none] [] (.d (.bool true)) from ?_)
  have mix : ∀ {ρ : Rho} {te : TE} {i : Int}, ρ[0]? = some (some (.list (ns.map PyData.int))) → ED K te ρ (.int i) → 0 ≤ i → i ≤ 1000000 → ED K (tCall (SpR K RMixed) [] E0 (tCons (tVar 0) (tCons te tNil))) ρ (.int (mixed ns i)) := fun h0 h1 a b => ed_call (eds_cons (ed_var h0) (eds_cons h1 eds_nil)) ⟨ns, _, rfl, a, b, rfl⟩
  have mb := mixed_bd ns
  generalize hsc : (PyData.list (ns.map PyData.int) : D) = sc at *
  -- the game, who, the play
  obtain ⟨dd, hdd, edd⟩ : ∃ dd : Nat, dd ≤ 5 ∧ (1 : Int) + mixed ns 1 % 5 = (dd : Int) := by
    have h0 := Int.emod_nonneg (mixed ns 1) (show (5 : Int) ≠ 0 by decide)
    have h1 := Int.emod_lt_of_pos (mixed ns 1) (show (0 : Int) < 5 by decide)
    exact ⟨(1 + mixed ns 1 % 5).toNat, by omega, by omega⟩
  have g0 := (game_G dd (mixed ns 0)).le hdd
  have ok0 : okG 6 (game dd (mixed ns 0)).data = true := g0.ok (by decide)
  have z0 : sz (game dd (mixed ns 0)).data ≤ 2559 := g0.sz
  refine rts_seq (xm_asg (ex_pure (d := (game dd (mixed ns 0)).data) (ed_call (eds_cons (mix rfl ed_int (by decide) (by decide)) (eds_cons (ed_is (ed_op ed_int (ed_op (mix rfl ed_int (by decide) (by decide)) ed_int (rd_mod (by decide))) rd_addI) (by rw [edd])) eds_nil)) ⟨_, dd, rfl, (mb 0).1, by omega, rfl⟩))) ?_
  generalize (game dd (mixed ns 0)).data = d0 at *
  have hw : mixed ns 2 % 2 = 0 ∨ mixed ns 2 % 2 = 1 := by omega
  refine rts_seq (xm_asg (ex_pure (d := .int (mixed ns 2 % 2)) (ed_op (mix rfl ed_int (by decide) (by decide)) ed_int (rd_mod (by decide))))) ?_
  generalize mixed ns 2 % 2 = w0 at *
  have cp := cnt_pos 6 d0 w0 ok0
  have cnt : ∀ {ρ : Rho}, ρ[1]? = some (some d0) → ρ[2]? = some (some (.int w0)) → ED K (tCall (SpR K (RCount 7)) [] E0 (tCons (tVar 1) (tCons (tVar 2) tNil))) ρ (.int (cntF 6 d0 w0)) := fun a b => ed_call (eds_cons (ed_var a) (eds_cons (ed_var b) eds_nil)) ⟨d0, w0, 6, rfl, by decide, ok0, by omega, hw, rfl⟩
  have p0 := Int.emod_nonneg (mixed ns 3) (show cntF 6 d0 w0 ≠ 0 by omega)
  have p1 := Int.emod_lt_of_pos (mixed ns 3) (show (0 : Int) < cntF 6 d0 w0 by omega)
  refine rts_seq (xm_asg (ex_pure (d := .tuple (natD (playF 6 d0 w0 (mixed ns 3 % cntF 6 d0 w0)))) (ed_call (eds_cons (ed_var rfl) (eds_cons (ed_var rfl) (eds_cons (ed_op (mix rfl ed_int (by decide) (by decide)) (cnt rfl rfl) (rd_mod (by omega))) eds_nil))) ⟨d0, w0, _, 6, rfl, by decide, ok0, by omega, hw, p0, p1, rfl⟩))) ?_
  obtain ⟨hv, hlen⟩ := play_valid 6 d0 w0 _ ok0 p0 p1
  generalize playF 6 d0 w0 (mixed ns 3 % cntF 6 d0 w0) = js at *
  have p := path_ok hv ok0 hlen hw (by omega)
  have hl5 := p.ln
  have fpl : fitD 3 (.tuple (natD js)) := fit_natD 2 js
  have lnD : (natD js).length = js.length := by unfold natD; rw [List.length_map]
  have over : ∀ i, i < js.length → (optD (dAt d0 w0 js i).1 (dAt d0 w0 js i).2).isEmpty = false := fun i hi => by
    obtain ⟨s1, _⟩ := p.stP i _ (getD_at' hi)
    cases c : optD (dAt d0 w0 js i).1 (dAt d0 w0 js i).2 with
    | nil => rw [c] at s1; simp at s1
    | cons _ _ => rfl
  have overn : (optD (dAt d0 w0 js js.length).1 (dAt d0 w0 js js.length).2).isEmpty = true := by rw [p.enP]; rfl
  -- the match
  refine rts_seq (xm_asg (ex_mu (ex_makeM (K := K) (C := C) (x := .o 0) (xs := [.d d0, .d (.int w0)]) (μ1 := []) [0] (exs_pure (ds := [d0, .int w0]) (eds_cons (ed_var rfl) (eds_cons (ed_var rfl) eds_nil))) rfl (by simp) (by simp) (seenN 0 rfl rfl rfl) (fun y hy => by
    simp only [List.mem_cons, List.not_mem_nil, or_false] at hy
    rcases hy with rfl | rfl | rfl
    · exact Nat.zero_lt_one
    · exact True.intro
    · exact True.intro) ⟨d0, .int w0, rfl, rfl, rfl, rfl⟩) (show _ = ([stM C d0 w0 js 0 []] : Mu) by rw [stM0]; rfl))) ?_
  refine (show Rts K _ [some (.d sc), some (.d d0), some (.d (.int w0)), some (.d (.tuple (natD js))), some (.o 0), none, none, none, none, none, none, none] [stM C d0 w0 js 0 []] (.d (.bool true)) from ?_)
  refine rts_seq (xm_ifF (tx_ne (ex_seenM p (Nat.zero_le _) rfl rfl) (ex_pure (ed_tup (eds_cons (ed_tup (eds_cons (ed_var rfl) (eds_cons (ed_var rfl) eds_nil)) (by simp)) (eds_cons (ed_tup eds_nil) (eds_cons (ed_tup (eds_cons ed_int (eds_cons ed_int eds_nil)) (by simp)) (eds_cons (ed_op (ed_var rfl) (ed_tup eds_nil) (rd_eqU (fpl.shaped (by decide)) rfl)) eds_nil)))) (by simp))) ((fit_seen p (Nat.zero_le _) []).mono (by decide)) ?_) xm_next) ?_
  · unfold seenD
    rw [row0, dat0.1, dat0.2, eqv_tup, eqvs_nil]
    have e1 : mvs js 0 = [] := rfl
    rw [e1]
    congr 4
    cases js with
    | nil => rw [show optD d0 w0 = [] from hv]; rfl
    | cons j js =>
      have := over 0 (by simp)
      rw [dat0.1, dat0.2] at this
      rw [this]; rfl
  -- all its moves
  refine rts_seq (xm_forET (i := 5) (j := 6) (items := natD js) (fun _ => [some (.d sc), some (.d d0), some (.d (.int w0)), some (.d (.tuple (natD js))), some (.o 0), none, none, none, none, none, none, none]) (fun i => [stM C d0 w0 js i []]) (exs_pure (ds := [.tuple (natD js)]) (eds_cons (ed_var rfl) eds_nil)) rfl rfl ⟨js.length, Nat.le_of_eq lnD.symm, fun i x hi hx => ?_, .inl ⟨lnD.symm, rfl⟩⟩) ?_
  · have hj := getD_at' hi
    have ex : x = .int ((js.getD i 0 : Nat) : Int) := by
      unfold natD at hx
      rw [List.getElem?_map, hj] at hx
      exact (Option.some.inj hx).symm
    subst ex
    refine xm_less (n := 1) (μ1 := [stM C d0 w0 js (i + 1) []]) (ρ1 := [some (.d sc), some (.d d0), some (.d (.int w0)), some (.d (.tuple (natD js))), some (.o 0), some (.d (.int (i : Int))), some (.d (.int ((js.getD i 0 : Nat) : Int))), none, none, none, none, none]) ?_ (Nat.le_refl _) rfl rfl ?_
    · refine xm_ifF (tx_is (tx_or (p := false) (tx_is (tx_test (ex_overM p (Nat.le_of_lt hi) rfl rfl)) (over i hi)) (fun _ => tx_or (p := false) (tx_ne (ex_moveM p hj (exs_cons (ex_var rfl) exs_nil) rfl rfl) (ex_op (ex_standM (n := 0) rfl rfl) (ex_pure (d := .int 0) ed_int) (rd_ixUT (atI_z (by decide) rfl))) ?_ rfl) (fun _ => tx_ne (ex_movesM (n := 0) rfl rfl) (ex_pure (ed_slUT (ed_var rfl) eo_none (eo_some (ed_op (ed_var rfl) ed_int rd_addI)))) ((fit_natD 2 _).mono (by decide)) ?_) (fun z => by cases z)) (fun z => by cases z)) rfl) xm_next
      · obtain ⟨g, okg, hg⟩ := p.okP (i + 1) hi
        exact (ok_fit okg).mono (by omega)
      · rw [show ((i : Nat) : Int) + 1 = ((i + 1 : Nat) : Int) by omega, cut_to, nat_take]; rfl
    · intro i x h
      rcases i with _ | _ | _ | _ | _ | _ | _ | i
      · cases h; exact ⟨rfl, trivial⟩
      · cases h; exact ⟨rfl, trivial⟩
      · cases h; exact ⟨rfl, trivial⟩
      · cases h; exact ⟨rfl, trivial⟩
      · cases h; exact ⟨rfl, Nat.zero_lt_one⟩
      · simp at h
      · simp at h
      · rcases i with _ | _ | _ | _ | _ | i <;> simp at h
  refine rts_seq (xm_ifF (tx_is (tx_test (ex_op (ex_overM p (Nat.le_refl _) rfl rfl) (ex_pure (d := .bool true) ed_bl) rd_isnotBl)) (by rw [overn]; rfl)) xm_next) ?_
  -- some taken back
  obtain ⟨L, hL, eL⟩ : ∃ L : Nat, L ≤ js.length ∧ mixed ns 4 % ((natD js).length + 1) = (L : Int) := by
    have h0 := Int.emod_nonneg (mixed ns 4) (show (((natD js).length : Nat) : Int) + 1 ≠ 0 by omega)
    have h1 := Int.emod_lt_of_pos (mixed ns 4) (show (0 : Int) < (((natD js).length : Nat) : Int) + 1 by omega)
    exact ⟨(mixed ns 4 % ((natD js).length + 1)).toNat, by omega, by omega⟩
  refine rts_seq (xm_asg (ex_pure (d := .int (L : Int)) (ed_is (ed_op (mix rfl ed_int (by decide) (by decide)) (ed_op (ed_cb (eds_cons (ed_var rfl) eds_nil) cd_lenT) ed_int rd_addI) (rd_mod (by omega))) (by rw [eL])))) ?_
  refine (show Rts K _ [some (.d sc), some (.d d0), some (.d (.int w0)), some (.d (.tuple (natD js))), some (.o 0), none, none, some (.d (.int (L : Int))), none, none, none, none] [stM C d0 w0 js js.length []] (.d (.bool true)) from ?_)
  have gn0 := gns_all d0 w0 js
  obtain ⟨m, em⟩ : ∃ m, m = js.length - L := ⟨_, rfl⟩
  have hm : m ≤ js.length := by omega
  rw [← gn0]
  refine rts_seq (ρ1 := [some (.d sc), some (.d d0), some (.d (.int w0)), some (.d (.tuple (natD js))), some (.o 0), none, none, some (.d (.int (L : Int))), some (.d (.list (glD js L))), none, none, none]) (μ1 := [stM C d0 w0 js m (gns d0 w0 js m)]) (xm_asg (x := .d (.list (glD js L))) ?_) ?_
  · have h := ex_lcR1 (K := K) (j := 6) (t := tYes) (te := tMeth C "back" (SpM K (RMBack C)) [] E0 (tVar 4) tNil) (ts := tCons (tVar 7) tNil) (ρ := [some (.d sc), some (.d d0), some (.d (.int w0)), some (.d (.tuple (natD js))), some (.o 0), none, none, some (.d (.int (L : Int))), none, none, none, none]) (k := (L : Int)) (fun i => [stM C d0 w0 js (js.length - i) (gns d0 w0 js (js.length - i))]) (glD js) rfl (exs_pure (ds := [.int (L : Int)]) (eds_cons (ed_var rfl) eds_nil)) ⟨by omega, by omega⟩ (fun i hi => ?_) (fun i hi => by rw [gl_len]; omega)
    · rw [Int.toNat_natCast, ← em] at h
      exact h
    · rw [gl_succ, show js.length - 1 - i = js.length - (i + 1) by omega]
      have hj := getD_at' (js := js) (i := js.length - (i + 1)) (by omega)
      have eb := ex_backM (K := K) (C := C) (ρ := (wipeX [some (.d sc), some (.d d0), some (.d (.int w0)), some (.d (.tuple (natD js))), some (.o 0), none, none, some (.d (.int (L : Int))), none, none, none, none] [6]).set 6 (some (.d (.int (i : Int))))) (i := 4) (n := 0) (μ := [stM C d0 w0 js (js.length - i) (gns d0 w0 js (js.length - i))]) p hj rfl (by rw [show js.length - (i + 1) + 1 = js.length - i by omega]; rfl)
      exact turn_map eb
  have grv := gl_rev (js := js) L hL
  rw [← em] at grv
  have fgl : fitD 5 (.tuple (natD (js.drop m))) := fit_natD 4 _
  refine rts_seq (xm_ifF (tx_is (tx_pure (et_test (ed_op (ed_cb (eds_cons (ed_el (el_revL (ed_var rfl))) eds_nil) cd_tupL) (ed_slUT (ed_var rfl) (eo_some (ed_op (ed_cb (eds_cons (ed_var rfl) eds_nil) cd_lenT) (ed_var rfl) rd_sub)) eo_none) (rd_neU (by rw [grv]; exact fgl.shaped (by decide)) ?_)))) ?_) xm_next) ?_
  · rw [show (((natD js).length : Nat) : Int) - (L : Int) = ((m : Nat) : Int) by omega, cut_from, nat_drop]
    exact fgl.shaped (by decide)
  · rw [grv, show (((natD js).length : Nat) : Int) - (L : Int) = ((m : Nat) : Int) by omega, cut_from, nat_drop, eqv_self _ fgl.1]
    rfl
  -- the twin
  generalize hc0 : stM C d0 w0 js m (gns d0 w0 js m) = c0
  have hc0' : c0 = stM C d0 w0 js m (gns d0 w0 js m) := hc0.symm
  refine rts_seq (ρ1 := [some (.d sc), some (.d d0), some (.d (.int w0)), some (.d (.tuple (natD js))), some (.o 0), none, none, some (.d (.int (L : Int))), some (.d (.list (glD js L))), some (.o 1), none, none]) (μ1 := [c0, c0]) (xm_asg (x := .o 1) ?_) ?_
  · obtain ⟨tl, etl⟩ := rws_cons d0 w0 js m
    have e0 : c0 = .ins C (mf (.tuple [d0, .int w0] :: tl) (mvs js m) (gns d0 w0 js m)) := by rw [hc0', stM, etl]
    rw [e0]
    exact ex_mu (ex_methM (K := K) (E := E0) (R := RMTwin C) (x := .o 0) (xs := []) (r := .o 1) (n := 0) [0] (ex_var rfl) rfl (lk_no (by decide +kernel) (by decide +kernel) (by decide +kernel)) rfl exs_nil (by simp) (by simp) (seenN 0 rfl rfl rfl) (fun y hy => by rw [List.mem_singleton.mp hy]; exact Nat.zero_lt_one) ⟨d0, .int w0, tl, mvs js m, gns d0 w0 js m, rfl, rfl, rfl, rfl⟩) rfl
  have s0 : ∀ {c1 : MO}, ([c0, c1] : Mu)[0]? = some (stM C d0 w0 js m (gns d0 w0 js m)) := fun {c1} => by rw [← hc0']; rfl
  refine rts_seq (xm_asg (ex_seenM (n := 0) p hm rfl s0)) ?_
  refine (show Rts K _ [some (.d sc), some (.d d0), some (.d (.int w0)), some (.d (.tuple (natD js))), some (.o 0), none, none, some (.d (.int (L : Int))), some (.d (.list (glD js L))), some (.o 1), some (.d (seenD d0 w0 js m (gns d0 w0 js m))), none] [c0, c0] (.d (.bool true)) from ?_)
  have fsm := fit_seen p hm (gns d0 w0 js m)
  have fsn := fit_seen p (Nat.le_refl _) (gns d0 w0 js js.length)
  refine rts_seq (μ1 := [c0, stM C d0 w0 js js.length (gns d0 w0 js js.length)]) (xm_ifF (tx_is (tx_or (p := false) (tx_ne (ex_seenM (n := 1) p hm rfl (by rw [← hc0']; rfl)) (ex_var rfl) (fsm.mono (by decide)) rfl) (fun _ => tx_or (p := false) (μ1 := [c0, stM C d0 w0 js js.length (gns d0 w0 js js.length)]) (tx_ne (x := .list (natD (js.drop m))) ?_ (ex_pure (ed_el (el_revL (ed_var rfl)))) ((fit_lst_of fgl).mono (by decide)) (by rw [grv])) (fun _ => tx_ne (ex_seenM (n := 0) p hm rfl s0) (ex_var rfl) (fsm.mono (by decide)) rfl) (fun z => by cases z)) (fun z => by cases z)) rfl) xm_next) ?_
  · have h := ex_lcR1 (K := K) (j := 6) (t := tYes) (te := tMeth C "forth" (SpM K (RMForth C)) [] E0 (tVar 9) tNil) (ts := tCons (tVar 7) tNil) (ρ := [some (.d sc), some (.d d0), some (.d (.int w0)), some (.d (.tuple (natD js))), some (.o 0), none, none, some (.d (.int (L : Int))), some (.d (.list (glD js L))), some (.o 1), some (.d (seenD d0 w0 js m (gns d0 w0 js m))), none]) (μ := [c0, c0]) (k := (L : Int)) (fun i => [c0, stM C d0 w0 js (m + i) (gns d0 w0 js (m + i))]) (fun i => natD ((js.drop m).take i)) rfl (by rw [Nat.add_zero, ← hc0']; exact exs_pure (ds := [.int (L : Int)]) (eds_cons (ed_var rfl) eds_nil)) ⟨by omega, by omega⟩ (fun i hi => ?_) (fun i hi => by unfold natD; rw [List.length_map, List.length_take]; omega)
    · rw [Int.toNat_natCast, show m + L = js.length by omega, List.take_of_length_le (by rw [List.length_drop]; omega)] at h
      exact h
    · have hj := getD_at' (js := js) (i := m + i) (by omega)
      rw [nat_succ (l := js.drop m) (i := i) (j := js.getD (m + i) 0) (by rw [List.getElem?_drop]; exact hj)]
      exact turn_map (ex_forthM (K := K) (C := C) (i := 9) (n := 1) (μ := [c0, stM C d0 w0 js (m + i) (gns d0 w0 js (m + i))]) p hj rfl rfl)
  refine rts_seq (xm_asg (ex_seenM (n := 1) p (Nat.le_refl _) rfl rfl)) ?_
  refine (show Rts K _ [some (.d sc), some (.d d0), some (.d (.int w0)), some (.d (.tuple (natD js))), some (.o 0), none, none, some (.d (.int (L : Int))), some (.d (.list (glD js L))), some (.o 1), some (.d (seenD d0 w0 js m (gns d0 w0 js m))), some (.d (seenD d0 w0 js js.length (gns d0 w0 js js.length)))] [c0, stM C d0 w0 js js.length (gns d0 w0 js js.length)] (.d (.bool true)) from ?_)
  have s3 : SeqAt.shaped (.tuple (natD js)) = true := fpl.shaped (by decide)
  have lm : (mvs js js.length).length = js.length := mvs_len js (Nat.le_refl _)
  have es : seenD d0 w0 js js.length (gns d0 w0 js js.length) = .tuple [rowR d0 w0 js js.length, .tuple (natD js), .tuple [.int (((natD js).length : Nat) : Int), .int 0], .bool true] := by
    unfold seenD
    rw [gn0, overn, mvs_all]
    rfl
  rw [es] at fsn ⊢
  refine rts_seq (xm_ifF (tx_is (tx_pure (et_or (x := false) (et_is' (et_test (ed_op (ed_op (ed_var rfl) ed_int (rd_ixUT (i := 1) (atI_z (by decide) rfl))) (ed_var rfl) (rd_neU s3 s3))) (by rw [eqv_self _ fpl.1]; rfl)) fun _ => et_or (x := false) (et_is' (et_test (ed_op (ed_op (ed_var rfl) ed_int (rd_ixUT (i := 2) (atI_z (by decide) rfl))) (ed_tup (eds_cons (ed_cb (eds_cons (ed_var rfl) eds_nil) cd_lenT) (eds_cons ed_int eds_nil)) (by simp)) (rd_neU rfl rfl))) (by rw [eqv_self _ rfl]; rfl)) fun _ => et_test (ed_op (ed_op (ed_var rfl) ed_int (rd_ixUT (i := 3) (atI_z (by decide) rfl))) ed_bl rd_isnotBl))) rfl) xm_next) ?_
  -- the twin is taken back to nothing
  refine rts_seq (μ1 := [c0, stM C d0 w0 js 0 (gns d0 w0 js 0)]) (xm_ifF (tx_is (tx_or (p := false) (μ1 := [c0, stM C d0 w0 js 0 (gns d0 w0 js 0)]) (tx_ne (x := .list (natD js).reverse) ?_ (ex_pure (ed_el (el_cb (eds_cons (ed_revT (ed_var rfl)) eds_nil) cl_lstT))) ?_ rfl) (fun _ => tx_ne (ex_standM (n := 1) rfl rfl) (ex_pure (ed_tup (eds_cons (ed_var rfl) (eds_cons (ed_var rfl) eds_nil)) (by simp))) ((fit_row p (Nat.zero_le _)).mono (by decide)) row0) (fun z => by cases z)) rfl) xm_next) ?_
  · have h := ex_lcT (K := K) (j := 6) (t := tYes) (te := tMeth C "back" (SpM K (RMBack C)) [] E0 (tVar 9) tNil) (tl := tVar 3) (items := natD js) (ρ := [some (.d sc), some (.d d0), some (.d (.int w0)), some (.d (.tuple (natD js))), some (.o 0), none, none, some (.d (.int (L : Int))), some (.d (.list (glD js L))), some (.o 1), some (.d (seenD d0 w0 js m (gns d0 w0 js m))), some (.d (.tuple [rowR d0 w0 js js.length, .tuple (natD js), .tuple [.int (((natD js).length : Nat) : Int), .int 0], .bool true]))]) (μ := [c0, stM C d0 w0 js js.length (gns d0 w0 js js.length)]) (fun i => [c0, stM C d0 w0 js (js.length - i) (gns d0 w0 js (js.length - i))]) (glD js) rfl (ex_var rfl) (fun i x hx => ?_) (fun i hi => by rw [gl_len]; omega)
    · rw [lnD, gl_all, Nat.sub_self] at h
      rw [lnD]
      exact h
    · have hi : i < js.length := by
        have := (List.getElem?_eq_some_iff.mp hx).1
        omega
      rw [gl_succ, show js.length - 1 - i = js.length - (i + 1) by omega]
      have hj := getD_at' (js := js) (i := js.length - (i + 1)) (by omega)
      exact turn_map (ex_backM (K := K) (C := C) (i := 9) (n := 1) (μ := [c0, stM C d0 w0 js (js.length - i) (gns d0 w0 js (js.length - i))]) p hj rfl (by rw [show js.length - (i + 1) + 1 = js.length - i by omega]; rfl))
  · exact (fit_lst (n := 59)).mpr fun x hx => by
      obtain ⟨z, _, rfl⟩ := List.mem_map.mp (List.mem_reverse.mp hx)
      exact fit_int
  -- .. and forth
  refine rts_seq (μ1 := [c0, stM C d0 w0 js js.length (gns d0 w0 js js.length)]) (xm_ifF (tx_is (tx_or (p := false) (μ1 := [c0, stM C d0 w0 js js.length (gns d0 w0 js js.length)]) (tx_ne (x := .list (natD js)) ?_ (ex_pure (ed_el (el_cb (eds_cons (ed_var rfl) eds_nil) cl_lstT))) ((fit_lst_of fpl).mono (by decide)) rfl) (fun _ => tx_ne (ex_seenM (n := 1) p (Nat.le_refl _) rfl rfl) (ex_var rfl) (by rw [es]; exact fsn.mono (by decide)) es) (fun z => by cases z)) rfl) xm_next) ?_
  · have h := ex_lcT (K := K) (j := 6) (t := tYes) (te := tMeth C "forth" (SpM K (RMForth C)) [] E0 (tVar 9) tNil) (tl := tVar 3) (items := natD js) (ρ := [some (.d sc), some (.d d0), some (.d (.int w0)), some (.d (.tuple (natD js))), some (.o 0), none, none, some (.d (.int (L : Int))), some (.d (.list (glD js L))), some (.o 1), some (.d (seenD d0 w0 js m (gns d0 w0 js m))), some (.d (.tuple [rowR d0 w0 js js.length, .tuple (natD js), .tuple [.int (((natD js).length : Nat) : Int), .int 0], .bool true]))]) (μ := [c0, stM C d0 w0 js 0 (gns d0 w0 js 0)]) (fun i => [c0, stM C d0 w0 js i (gns d0 w0 js i)]) (fun i => natD (js.take i)) rfl (ex_var rfl) (fun i x hx => ?_) (fun i hi => by unfold natD; rw [List.length_map, List.length_take]; omega)
    · rw [lnD, List.take_length] at h
      rw [lnD]
      exact h
    · have hi : i < js.length := by
        have := (List.getElem?_eq_some_iff.mp hx).1
        omega
      have hj := getD_at' hi
      rw [nat_succ hj]
      exact turn_map (ex_forthM (K := K) (C := C) (i := 9) (n := 1) (μ := [c0, stM C d0 w0 js i (gns d0 w0 js i)]) p hj rfl rfl)
  -- one more move at the match
  refine rts_seq (ρ1 := [some (.d sc), some (.d d0), some (.d (.int w0)), some (.d (.tuple (natD js))), some (.o 0), none, none, some (.d (.int (L : Int))), some (.d (.list (glD js L))), some (.o 1), some (.d (seenD d0 w0 js m (gns d0 w0 js m))), some (.d (.tuple [rowR d0 w0 js js.length, .tuple (natD js), .tuple [.int (((natD js).length : Nat) : Int), .int 0], .bool true]))]) (μ1 := [stM C d0 w0 js (js.length - (L - 1)) [], stM C d0 w0 js js.length (gns d0 w0 js js.length)]) ?_ ?_
  · cases L with
    | zero =>
      have e1 : m = js.length := by omega
      rw [hc0', e1, gn0]
      exact xm_out (xm_forL (items := []) (fun _ => _) (fun _ => _) (ex_pure (ed_is (ed_el (el_slUL (ed_el (el_revL (ed_var rfl))) eo_none (eo_some ed_int))) (by rw [grv, e1, List.drop_length]; rfl))) rfl rfl ⟨0, Nat.zero_le _, fun i d h _ => absurd h (Nat.not_lt_zero _), .inl ⟨rfl, rfl⟩⟩) rfl
    | succ L' =>
      have hj := getD_at' (js := js) (i := m) (by omega)
      have hml : m < js.length := by omega
      have e2 : js.drop m = js.getD m 0 :: js.drop (m + 1) := by
        rw [List.drop_eq_getElem_cons hml]
        congr 1
        rw [List.getD_eq_getElem?_getD, List.getElem?_eq_getElem hml]; rfl
      rw [show js.length - (L' + 1 - 1) = m + 1 by omega]
      refine xm_forL (j := 6) (items := [.int ((js.getD m 0 : Nat) : Int)]) (fun _ => _) (fun i => if i = 0 then [c0, stM C d0 w0 js js.length (gns d0 w0 js js.length)] else [stM C d0 w0 js (m + 1) [], stM C d0 w0 js js.length (gns d0 w0 js js.length)]) (ex_pure (ed_is (ed_el (el_slUL (ed_el (el_revL (ed_var rfl))) eo_none (eo_some ed_int))) ?_)) rfl rfl ⟨1, Nat.le_refl _, fun i x hi hx => ?_, .inl ⟨rfl, rfl⟩⟩
      · rw [grv, e2]
        rfl
      · have e0 : i = 0 := by omega
        subst e0
        cases hx
        have st : stM C d0 w0 js m (gns d0 w0 js m) = c0 := hc0
        refine xm_less (n := 2) (μ1 := [stM C d0 w0 js (m + 1) [], stM C d0 w0 js js.length (gns d0 w0 js js.length)]) (xm_drop (ex_moveM (n := 0) p hj (exs_cons (ex_var rfl) exs_nil) rfl s0)) (Nat.le_refl _) rfl rfl ?_
        intro i x h
        rcases i with _ | _ | _ | _ | _ | _ | _ | _ | _ | _ | _ | _ | i
        · cases h; exact ⟨rfl, trivial⟩
        · cases h; exact ⟨rfl, trivial⟩
        · cases h; exact ⟨rfl, trivial⟩
        · cases h; exact ⟨rfl, trivial⟩
        · cases h; exact ⟨rfl, (by decide : 0 < 2)⟩
        · cases h
        · cases h
        · cases h; exact ⟨rfl, trivial⟩
        · cases h; exact ⟨rfl, trivial⟩
        · cases h; exact ⟨rfl, (by decide : 1 < 2)⟩
        · cases h; exact ⟨rfl, trivial⟩
        · cases h; exact ⟨rfl, trivial⟩
        · cases h
  have lmm : (mvs js (js.length - (L - 1))).length = js.length - (L - 1) := mvs_len js (by omega)
  refine rts_ret (ex_it (ex_andV (p := true) (q := true) (ex_eq (ex_tallyM (n := 0) rfl rfl) (ex_pure (ed_tup (eds_cons (ed_op (ed_cb (eds_cons (ed_var rfl) eds_nil) cd_lenT) (ed_cb (eds_cons (ed_op (ed_var rfl) ed_int rd_sub) (eds_cons ed_int eds_nil)) cd_max2) rd_sub) (eds_cons ed_int eds_nil)) (by simp))) ?_ ?_) (fun _ => ex_eq (ex_seenM (n := 1) p (Nat.le_refl _) rfl rfl) (ex_var rfl) (by rw [es]; exact fsn.mono (by decide)) es) (fun z => by cases z)) rfl)
  · exact (fit_tup (n := 59)).mpr fun x hx => by
      rcases List.mem_cons.mp hx with e | e
      · rw [e]; exact fit_int
      · rw [List.mem_singleton.mp e]; exact fit_int
  · rw [lmm, lnD]
    congr 3
    have : max ((L : Int) - 1) 0 = ((L - 1 : Nat) : Int) := by omega
    rw [this]
    omega
end
end LM

set_option Elab.async false
set_option linter.all false
set_option maxRecDepth 100000
set_option maxHeartbeats 4000000
namespace LM
open PySem PySem.Spec PyProof.Rows L2 Evl
theorem all_mk {l : PySem.W.OpenLaw} {w : World} {K : PySem.W.Frag} {h : Heap} {mg : Str → Option Value} {fa : Addr} (X : K.In h) (G : h.Ns mainGlobals mg) (hfa : mg "law" = some (.ref fa))
    {f0 : Addr} {od0 an0 : Option Addr} {sl0 : Array (Option Value)} {oc0 kV0 dc0 pm0 cd0 ct0 : Value} {f1 : Addr} {od1 an1 : Option Addr} {sl1 : Array (Option Value)} {oc1 kV1 dc1 pm1 cd1 ct1 : Value} {f2 : Addr} {od2 an2 : Option Addr} {sl2 : Array (Option Value)} {oc2 kV2 dc2 pm2 cd2 ct2 : Value} {f3 : Addr} {od3 an3 : Option Addr} {sl3 : Array (Option Value)} {oc3 kV3 dc3 pm3 cd3 ct3 : Value} {f4 : Addr} {od4 an4 : Option Addr} {sl4 : Array (Option Value)} {oc4 kV4 dc4 pm4 cd4 ct4 : Value} {f5 : Addr} {od5 an5 : Option Addr} {sl5 : Array (Option Value)} {oc5 kV5 dc5 pm5 cd5 ct5 : Value} {f6 : Addr} {od6 an6 : Option Addr} {sl6 : Array (Option Value)} {oc6 kV6 dc6 pm6 cd6 ct6 : Value} {f7 : Addr} {od7 an7 : Option Addr} {sl7 : Array (Option Value)} {oc7 kV7 dc7 pm7 cd7 ct7 : Value} {f8 : Addr} {od8 an8 : Option Addr} {sl8 : Array (Option Value)} {oc8 kV8 dc8 pm8 cd8 ct8 : Value} {f9 : Addr} {od9 an9 : Option Addr} {sl9 : Array (Option Value)} {oc9 kV9 dc9 pm9 cd9 ct9 : Value} {cMatch : Addr} {mf0 : Addr} {mod0 man0 : Option Addr} {msl0 : Array (Option Value)} {moc0 mkV0 mdc0 mpm0 mcd0 mct0 : Value} {mf1 : Addr} {mod1 man1 : Option Addr} {msl1 : Array (Option Value)} {moc1 mkV1 mdc1 mpm1 mcd1 mct1 : Value} {mf2 : Addr} {mod2 man2 : Option Addr} {msl2 : Array (Option Value)} {moc2 mkV2 mdc2 mpm2 mcd2 mct2 : Value} {mf3 : Addr} {mod3 man3 : Option Addr} {msl3 : Array (Option Value)} {moc3 mkV3 mdc3 mpm3 mcd3 mct3 : Value} {mf4 : Addr} {mod4 man4 : Option Addr} {msl4 : Array (Option Value)} {moc4 mkV4 mdc4 mpm4 mcd4 mct4 : Value} {mf5 : Addr} {mod5 man5 : Option Addr} {msl5 : Array (Option Value)} {moc5 mkV5 mdc5 mpm5 mcd5 mct5 : Value} {mf6 : Addr} {mod6 man6 : Option Addr} {msl6 : Array (Option Value)} {moc6 mkV6 mdc6 mpm6 mcd6 mct6 : Value} {mf7 : Addr} {mod7 man7 : Option Addr} {msl7 : Array (Option Value)} {moc7 mkV7 mdc7 mpm7 mcd7 mct7 : Value} {mf8 : Addr} {mod8 man8 : Option Addr} {msl8 : Array (Option Value)} {moc8 mkV8 mdc8 mpm8 mcd8 mct8 : Value}
    (a0 : PySem.W.nsIn K mainGlobals "count_plays" = some (some (.ref f0))) (l0 : K.lookup f0 = some ⟨oc0, od0, .func (PySem.W.fnOf "count_plays" "count_plays" (defArgs sCountPlays) (defBody sCountPlays) (defScope sCountPlays) .none kV0 dc0 pm0 an0 cd0 ct0), sl0⟩) (c0 : PySem.W.codeIn K cd0 "count_plays" = true) (k0 : PySem.W.keepIn K (.ref f0) = true)
    (a1 : PySem.W.nsIn K mainGlobals "play_at" = some (some (.ref f1))) (l1 : K.lookup f1 = some ⟨oc1, od1, .func (PySem.W.fnOf "play_at" "play_at" (defArgs sPlayAt) (defBody sPlayAt) (defScope sPlayAt) .none kV1 dc1 pm1 an1 cd1 ct1), sl1⟩) (c1 : PySem.W.codeIn K cd1 "play_at" = true) (k1 : PySem.W.keepIn K (.ref f1) = true)
    (a2 : PySem.W.nsIn K mainGlobals "_law_cell_at" = some (some (.ref f2))) (l2 : K.lookup f2 = some ⟨oc2, od2, .func (PySem.W.fnOf "_law_cell_at" "_law_cell_at" (defArgs sLawCellAt) (defBody sLawCellAt) (defScope sLawCellAt) .none kV2 dc2 pm2 an2 cd2 ct2), sl2⟩) (c2 : PySem.W.codeIn K cd2 "_law_cell_at" = true) (k2 : PySem.W.keepIn K (.ref f2) = true)
    (a3 : PySem.W.nsIn K mainGlobals "_law_mixed" = some (some (.ref f3))) (l3 : K.lookup f3 = some ⟨oc3, od3, .func (PySem.W.fnOf "_law_mixed" "_law_mixed" (defArgs sLawMixed) (defBody sLawMixed) (defScope sLawMixed) .none kV3 dc3 pm3 an3 cd3 ct3), sl3⟩) (c3 : PySem.W.codeIn K cd3 "_law_mixed" = true) (k3 : PySem.W.keepIn K (.ref f3) = true)
    (a4 : PySem.W.nsIn K mainGlobals "_law_drawn" = some (some (.ref f4))) (l4 : K.lookup f4 = some ⟨oc4, od4, .func (PySem.W.fnOf "_law_drawn" "_law_drawn" (defArgs sLawDrawn) (defBody sLawDrawn) (defScope sLawDrawn) .none kV4 dc4 pm4 an4 cd4 ct4), sl4⟩) (c4 : PySem.W.codeIn K cd4 "_law_drawn" = true) (k4 : PySem.W.keepIn K (.ref f4) = true)
    (a5 : PySem.W.nsIn K mainGlobals "_law_once" = some (some (.ref f5))) (l5 : K.lookup f5 = some ⟨oc5, od5, .func (PySem.W.fnOf "_law_once" "_law_once" (defArgs sLawOnce) (defBody sLawOnce) (defScope sLawOnce) .none kV5 dc5 pm5 an5 cd5 ct5), sl5⟩) (c5 : PySem.W.codeIn K cd5 "_law_once" = true) (k5 : PySem.W.keepIn K (.ref f5) = true)
    (a6 : PySem.W.nsIn K mainGlobals "_law_by" = some (some (.ref f6))) (l6 : K.lookup f6 = some ⟨oc6, od6, .func (PySem.W.fnOf "_law_by" "_law_by" (defArgs sLawBy) (defBody sLawBy) (defScope sLawBy) .none kV6 dc6 pm6 an6 cd6 ct6), sl6⟩) (c6 : PySem.W.codeIn K cd6 "_law_by" = true) (k6 : PySem.W.keepIn K (.ref f6) = true)
    (a7 : PySem.W.nsIn K mainGlobals "_law_game" = some (some (.ref f7))) (l7 : K.lookup f7 = some ⟨oc7, od7, .func (PySem.W.fnOf "_law_game" "_law_game" (defArgs sLawGame) (defBody sLawGame) (defScope sLawGame) .none kV7 dc7 pm7 an7 cd7 ct7), sl7⟩) (c7 : PySem.W.codeIn K cd7 "_law_game" = true) (k7 : PySem.W.keepIn K (.ref f7) = true)
    (a8 : PySem.W.nsIn K mainGlobals "_law_seen" = some (some (.ref f8))) (l8 : K.lookup f8 = some ⟨oc8, od8, .func (PySem.W.fnOf "_law_seen" "_law_seen" (defArgs sLawSeen) (defBody sLawSeen) (defScope sLawSeen) .none kV8 dc8 pm8 an8 cd8 ct8), sl8⟩) (c8 : PySem.W.codeIn K cd8 "_law_seen" = true) (k8 : PySem.W.keepIn K (.ref f8) = true)
    (a9 : PySem.W.nsIn K mainGlobals "law" = some (some (.ref f9))) (l9 : K.lookup f9 = some ⟨oc9, od9, .func (PySem.W.fnOf "law" "law" (defArgs sLaw) (defBody sLaw) (defScope sLaw) .none kV9 dc9 pm9 an9 cd9 ct9), sl9⟩) (c9 : PySem.W.codeIn K cd9 "law" = true) (k9 : PySem.W.keepIn K (.ref f9) = true)
    (z0 : PySem.W.nsIn K mainGlobals "len" = some none)
    (z1 : PySem.W.nsIn K mainGlobals "range" = some none)
    (z2 : PySem.W.nsIn K mainGlobals "sorted" = some none)
    (z3 : PySem.W.nsIn K mainGlobals "set" = some none)
    (z4 : PySem.W.nsIn K mainGlobals "tuple" = some none)
    (z5 : PySem.W.nsIn K mainGlobals "list" = some none)
    (z6 : PySem.W.nsIn K mainGlobals "zip" = some none)
    (z7 : PySem.W.nsIn K mainGlobals "all" = some none)
    (z8 : PySem.W.nsIn K mainGlobals "any" = some none)
    (z9 : PySem.W.nsIn K mainGlobals "sum" = some none)
    (z10 : PySem.W.nsIn K mainGlobals "max" = some none)
    (z11 : PySem.W.nsIn K mainGlobals "min" = some none)
    (z12 : PySem.W.nsIn K mainGlobals "isinstance" = some none)
    (z13 : PySem.W.nsIn K mainGlobals "int" = some none)
    (z14 : PySem.W.nsIn K mainGlobals "bool" = some none)
    (z15 : PySem.W.nsIn K mainGlobals "str" = some none)
    (z16 : PySem.W.nsIn K mainGlobals "abs" = some none)
    (z17 : PySem.W.nsIn K mainGlobals "enumerate" = some none)
    (z18 : PySem.W.nsIn K mainGlobals "repr" = some none)
    (z19 : PySem.W.nsIn K mainGlobals "ValueError" = some none)
    (oaMatch : PySem.W.nsIn K mainGlobals "Match" = some (some (.ref cMatch))) (okMatch : PySem.W.keepIn K (.ref cMatch) = true) (omMatch : PySem.W.makesIn K cMatch = true) (ogMatch : PySem.W.plainGet K cMatch Str.empty = true) (ohMatch : PySem.W.hasDictIn K cMatch = true) (opMatch : PySem.W.plainOver K cMatch = true) (osMatch : PySem.W.findIn K (.ref cMatch) "__setattr__" = some (some (.builtin "object.__setattr__")))
    (ma0 : PySem.W.findIn K (.ref cMatch) "__init__" = some (some (.ref mf0))) (mi0 : PySem.W.isFn K (.ref mf0) = true) (ml0 : K.lookup mf0 = some ⟨moc0, mod0, .func (PySem.W.fnOf "__init__" "Match.__init__" (defArgs sMatchInit) (defBody sMatchInit) (defScope sMatchInit) .none mkV0 mdc0 mpm0 man0 mcd0 mct0), msl0⟩) (mc0 : PySem.W.codeIn K mcd0 "Match.__init__" = true) (mk0 : PySem.W.keepIn K (.ref mf0) = true)
    (ma1 : PySem.W.findIn K (.ref cMatch) "standing" = some (some (.ref mf1))) (mi1 : PySem.W.isFn K (.ref mf1) = true) (ml1 : K.lookup mf1 = some ⟨moc1, mod1, .func (PySem.W.fnOf "standing" "Match.standing" (defArgs sMatchStanding) (defBody sMatchStanding) (defScope sMatchStanding) .none mkV1 mdc1 mpm1 man1 mcd1 mct1), msl1⟩) (mc1 : PySem.W.codeIn K mcd1 "Match.standing" = true) (mk1 : PySem.W.keepIn K (.ref mf1) = true)
    (ma2 : PySem.W.findIn K (.ref cMatch) "move" = some (some (.ref mf2))) (mi2 : PySem.W.isFn K (.ref mf2) = true) (ml2 : K.lookup mf2 = some ⟨moc2, mod2, .func (PySem.W.fnOf "move" "Match.move" (defArgs sMatchMove) (defBody sMatchMove) (defScope sMatchMove) .none mkV2 mdc2 mpm2 man2 mcd2 mct2), msl2⟩) (mc2 : PySem.W.codeIn K mcd2 "Match.move" = true) (mk2 : PySem.W.keepIn K (.ref mf2) = true)
    (ma3 : PySem.W.findIn K (.ref cMatch) "is_over" = some (some (.ref mf3))) (mi3 : PySem.W.isFn K (.ref mf3) = true) (ml3 : K.lookup mf3 = some ⟨moc3, mod3, .func (PySem.W.fnOf "is_over" "Match.is_over" (defArgs sMatchIsOver) (defBody sMatchIsOver) (defScope sMatchIsOver) .none mkV3 mdc3 mpm3 man3 mcd3 mct3), msl3⟩) (mc3 : PySem.W.codeIn K mcd3 "Match.is_over" = true) (mk3 : PySem.W.keepIn K (.ref mf3) = true)
    (ma4 : PySem.W.findIn K (.ref cMatch) "moves" = some (some (.ref mf4))) (mi4 : PySem.W.isFn K (.ref mf4) = true) (ml4 : K.lookup mf4 = some ⟨moc4, mod4, .func (PySem.W.fnOf "moves" "Match.moves" (defArgs sMatchMoves) (defBody sMatchMoves) (defScope sMatchMoves) .none mkV4 mdc4 mpm4 man4 mcd4 mct4), msl4⟩) (mc4 : PySem.W.codeIn K mcd4 "Match.moves" = true) (mk4 : PySem.W.keepIn K (.ref mf4) = true)
    (ma5 : PySem.W.findIn K (.ref cMatch) "back" = some (some (.ref mf5))) (mi5 : PySem.W.isFn K (.ref mf5) = true) (ml5 : K.lookup mf5 = some ⟨moc5, mod5, .func (PySem.W.fnOf "back" "Match.back" (defArgs sMatchBack) (defBody sMatchBack) (defScope sMatchBack) .none mkV5 mdc5 mpm5 man5 mcd5 mct5), msl5⟩) (mc5 : PySem.W.codeIn K mcd5 "Match.back" = true) (mk5 : PySem.W.keepIn K (.ref mf5) = true)
    (ma6 : PySem.W.findIn K (.ref cMatch) "forth" = some (some (.ref mf6))) (mi6 : PySem.W.isFn K (.ref mf6) = true) (ml6 : K.lookup mf6 = some ⟨moc6, mod6, .func (PySem.W.fnOf "forth" "Match.forth" (defArgs sMatchForth) (defBody sMatchForth) (defScope sMatchForth) .none mkV6 mdc6 mpm6 man6 mcd6 mct6), msl6⟩) (mc6 : PySem.W.codeIn K mcd6 "Match.forth" = true) (mk6 : PySem.W.keepIn K (.ref mf6) = true)
    (ma7 : PySem.W.findIn K (.ref cMatch) "tally" = some (some (.ref mf7))) (mi7 : PySem.W.isFn K (.ref mf7) = true) (ml7 : K.lookup mf7 = some ⟨moc7, mod7, .func (PySem.W.fnOf "tally" "Match.tally" (defArgs sMatchTally) (defBody sMatchTally) (defScope sMatchTally) .none mkV7 mdc7 mpm7 man7 mcd7 mct7), msl7⟩) (mc7 : PySem.W.codeIn K mcd7 "Match.tally" = true) (mk7 : PySem.W.keepIn K (.ref mf7) = true)
    (ma8 : PySem.W.findIn K (.ref cMatch) "twin" = some (some (.ref mf8))) (mi8 : PySem.W.isFn K (.ref mf8) = true) (ml8 : K.lookup mf8 = some ⟨moc8, mod8, .func (PySem.W.fnOf "twin" "Match.twin" (defArgs sMatchTwin) (defBody sMatchTwin) (defScope sMatchTwin) .none mkV8 mdc8 mpm8 man8 mcd8 mct8), msl8⟩) (mc8 : PySem.W.codeIn K mcd8 "Match.twin" = true) (mk8 : PySem.W.keepIn K (.ref mf8) = true)
    (na0 : PySem.W.findIn K (.ref cMatch) "gone" = some none)
    (na1 : PySem.W.findIn K (.ref cMatch) "made" = some none)
    (na2 : PySem.W.findIn K (.ref cMatch) "rows" = some none)
    : ∃ fd : FuncData, (∀ (s : Shared) (v : Value), BindsTo s fd ⟨[v], []⟩ [("_law_script", v)]) ∧ ∀ base : Heap, K.In base → base.Ns mainGlobals mg → FnOk l.prog w K mg base CX0 21 fa fd ["_law_script"] (SpR K RLaw) := by
  have e := hfa.symm.trans (PySem.W.mg_of X G a9)
  cases e
  have F_count_plays := fun_mk (st := sCountPlays) l0 c0 k0
  have b_count_plays := F_count_plays.binds (ps := ["game", "who"]) fun _ _ _ _ _ _ us hl => match us, hl with | [_, _], _ => rfl
  have m_count_plays := PySem.W.mg_of X G a0
  have F_play_at := fun_mk (st := sPlayAt) l1 c1 k1
  have b_play_at := F_play_at.binds (ps := ["game", "who", "place"]) fun _ _ _ _ _ _ us hl => match us, hl with | [_, _, _], _ => rfl
  have m_play_at := PySem.W.mg_of X G a1
  have F__law_cell_at := fun_mk (st := sLawCellAt) l2 c2 k2
  have b__law_cell_at := F__law_cell_at.binds (ps := ["_law_script", "_law_k"]) fun _ _ _ _ _ _ us hl => match us, hl with | [_, _], _ => rfl
  have m__law_cell_at := PySem.W.mg_of X G a2
  have F__law_mixed := fun_mk (st := sLawMixed) l3 c3 k3
  have b__law_mixed := F__law_mixed.binds (ps := ["_law_script", "_law_k"]) fun _ _ _ _ _ _ us hl => match us, hl with | [_, _], _ => rfl
  have m__law_mixed := PySem.W.mg_of X G a3
  have F__law_drawn := fun_mk (st := sLawDrawn) l4 c4 k4
  have b__law_drawn := F__law_drawn.binds (ps := ["_law_number", "_law_k"]) fun _ _ _ _ _ _ us hl => match us, hl with | [_, _], _ => rfl
  have m__law_drawn := PySem.W.mg_of X G a4
  have F__law_once := fun_mk (st := sLawOnce) l5 c5 k5
  have b__law_once := F__law_once.binds (ps := ["_law_some"]) fun _ _ _ _ _ _ us hl => match us, hl with | [_], _ => rfl
  have m__law_once := PySem.W.mg_of X G a5
  have F__law_by := fun_mk (st := sLawBy) l6 c6 k6
  have b__law_by := F__law_by.binds (ps := ["_law_lefts", "_law_rights"]) fun _ _ _ _ _ _ us hl => match us, hl with | [_, _], _ => rfl
  have m__law_by := PySem.W.mg_of X G a6
  have F__law_game := fun_mk (st := sLawGame) l7 c7 k7
  have b__law_game := F__law_game.binds (ps := ["_law_number", "_law_deep"]) fun _ _ _ _ _ _ us hl => match us, hl with | [_, _], _ => rfl
  have m__law_game := PySem.W.mg_of X G a7
  have F__law_seen := fun_mk (st := sLawSeen) l8 c8 k8
  have b__law_seen := F__law_seen.binds (ps := ["_law_match"]) fun _ _ _ _ _ _ us hl => match us, hl with | [_], _ => rfl
  have m__law_seen := PySem.W.mg_of X G a8
  have F_law := fun_mk (st := sLaw) l9 c9 k9
  have M_Match : Cls K cMatch := ⟨ogMatch, ohMatch, opMatch, osMatch⟩
  have g_Match := PySem.W.mg_of X G oaMatch
  have n_Match_gone : NoAttr K cMatch "gone" := na0
  have n_Match_made : NoAttr K cMatch "made" := na1
  have n_Match_rows : NoAttr K cMatch "rows" := na2
  have F_Match___init__ := fun_mk (st := sMatchInit) ml0 mc0 mk0
  have b_Match___init__ := F_Match___init__.binds (ps := ["self", "game", "who"]) fun _ _ _ _ _ _ us hl => match us, hl with | [_, _, _], _ => rfl
  have K_Match : Mk K cMatch mf0 := ⟨omMatch, ma0, mi0, okMatch⟩
  have F_Match_standing := fun_mk (st := sMatchStanding) ml1 mc1 mk1
  have b_Match_standing := F_Match_standing.binds (ps := ["self"]) fun _ _ _ _ _ _ us hl => match us, hl with | [_], _ => rfl
  have m_Match_standing : Meth K cMatch "standing" mf1 := ⟨ma1, mi1, mk1⟩
  have F_Match_move := fun_mk (st := sMatchMove) ml2 mc2 mk2
  have b_Match_move := F_Match_move.binds (ps := ["self", "k"]) fun _ _ _ _ _ _ us hl => match us, hl with | [_, _], _ => rfl
  have m_Match_move : Meth K cMatch "move" mf2 := ⟨ma2, mi2, mk2⟩
  have F_Match_is_over := fun_mk (st := sMatchIsOver) ml3 mc3 mk3
  have b_Match_is_over := F_Match_is_over.binds (ps := ["self"]) fun _ _ _ _ _ _ us hl => match us, hl with | [_], _ => rfl
  have m_Match_is_over : Meth K cMatch "is_over" mf3 := ⟨ma3, mi3, mk3⟩
  have F_Match_moves := fun_mk (st := sMatchMoves) ml4 mc4 mk4
  have b_Match_moves := F_Match_moves.binds (ps := ["self"]) fun _ _ _ _ _ _ us hl => match us, hl with | [_], _ => rfl
  have m_Match_moves : Meth K cMatch "moves" mf4 := ⟨ma4, mi4, mk4⟩
  have F_Match_back := fun_mk (st := sMatchBack) ml5 mc5 mk5
  have b_Match_back := F_Match_back.binds (ps := ["self"]) fun _ _ _ _ _ _ us hl => match us, hl with | [_], _ => rfl
  have m_Match_back : Meth K cMatch "back" mf5 := ⟨ma5, mi5, mk5⟩
  have F_Match_forth := fun_mk (st := sMatchForth) ml6 mc6 mk6
  have b_Match_forth := F_Match_forth.binds (ps := ["self"]) fun _ _ _ _ _ _ us hl => match us, hl with | [_], _ => rfl
  have m_Match_forth : Meth K cMatch "forth" mf6 := ⟨ma6, mi6, mk6⟩
  have F_Match_tally := fun_mk (st := sMatchTally) ml7 mc7 mk7
  have b_Match_tally := F_Match_tally.binds (ps := ["self"]) fun _ _ _ _ _ _ us hl => match us, hl with | [_], _ => rfl
  have m_Match_tally : Meth K cMatch "tally" mf7 := ⟨ma7, mi7, mk7⟩
  have F_Match_twin := fun_mk (st := sMatchTwin) ml8 mc8 mk8
  have b_Match_twin := F_Match_twin.binds (ps := ["self"]) fun _ _ _ _ _ _ us hl => match us, hl with | [_], _ => rfl
  have m_Match_twin : Meth K cMatch "twin" mf8 := ⟨ma8, mi8, mk8⟩
  have B : BI mg := ⟨PySem.W.mg_none_of X G z0, PySem.W.mg_none_of X G z1, PySem.W.mg_none_of X G z2, PySem.W.mg_none_of X G z3, PySem.W.mg_none_of X G z4, PySem.W.mg_none_of X G z5, PySem.W.mg_none_of X G z6, PySem.W.mg_none_of X G z7, PySem.W.mg_none_of X G z8, PySem.W.mg_none_of X G z9, PySem.W.mg_none_of X G z10, PySem.W.mg_none_of X G z11, PySem.W.mg_none_of X G z12, PySem.W.mg_none_of X G z13, PySem.W.mg_none_of X G z14, PySem.W.mg_none_of X G z15, PySem.W.mg_none_of X G z16, PySem.W.mg_none_of X G z17, PySem.W.mg_none_of X G z18, PySem.W.mg_none_of X G z19⟩
  refine ⟨PySem.W.fnOf "law" "law" (defArgs sLaw) (defBody sLaw) (defScope sLaw) .none kV9 dc9 pm9 an9 cd9 ct9, fun s v => .of_eq rfl, fun base _ _ => ?_⟩
  have T : MFacts K cMatch := ⟨M_Match, n_Match_rows, n_Match_made, n_Match_gone⟩
  have mk : HasMk l.prog w K mg base 1 "Match" cMatch (SpM K (RMInit cMatch)) := ⟨_, _, _, fn_Match_init (k := 0) B T F_Match___init__, K_Match, g_Match, b_Match___init__⟩
  have h_st : HasM l.prog w K mg base 1 cMatch "standing" (SpM K (RMStand cMatch)) := ⟨_, _, _, fn_Match_standing (k := 0) B T F_Match_standing, m_Match_standing, b_Match_standing⟩
  have h_mo : HasM l.prog w K mg base 1 cMatch "moves" (SpM K (RMMoves cMatch)) := ⟨_, _, _, fn_Match_moves (k := 0) B T F_Match_moves, m_Match_moves, b_Match_moves⟩
  have h_ta : HasM l.prog w K mg base 1 cMatch "tally" (SpM K (RMTally cMatch)) := ⟨_, _, _, fn_Match_tally (k := 0) B T F_Match_tally, m_Match_tally, b_Match_tally⟩
  have h_ov : HasM l.prog w K mg base 2 cMatch "is_over" (SpM K (RMOver cMatch)) := ⟨_, _, _, fn_Match_is_over (k := 1) B T F_Match_is_over h_st, m_Match_is_over, b_Match_is_over⟩
  have h_mv : HasM l.prog w K mg base 2 cMatch "move" (SpM K (RMMove cMatch)) := ⟨_, _, _, fn_Match_move (k := 1) B T F_Match_move h_st, m_Match_move, b_Match_move⟩
  have h_ba : HasM l.prog w K mg base 1 cMatch "back" (SpM K (RMBack cMatch)) := ⟨_, _, _, fn_Match_back (k := 0) B T F_Match_back, m_Match_back, b_Match_back⟩
  have h_fo : HasM l.prog w K mg base 1 cMatch "forth" (SpM K (RMForth cMatch)) := ⟨_, _, _, fn_Match_forth (k := 0) B T F_Match_forth, m_Match_forth, b_Match_forth⟩
  have h_tw : HasM l.prog w K mg base 3 cMatch "twin" (SpM K (RMTwin cMatch)) := ⟨_, _, _, fn_Match_twin (k := 2) B T F_Match_twin mk (by decide), m_Match_twin, b_Match_twin⟩
  have h_cell : Has l.prog w K mg base 1 "_law_cell_at" (SpR K RCell) := has__law_cell_at B F__law_cell_at b__law_cell_at m__law_cell_at
  have h_mixed : Has l.prog w K mg base 2 "_law_mixed" (SpR K RMixed) := has__law_mixed B F__law_mixed b__law_mixed m__law_mixed h_cell
  have h_drawn : Has l.prog w K mg base 1 "_law_drawn" (SpR K RDrawn) := has__law_drawn B F__law_drawn b__law_drawn m__law_drawn
  have h_once : Has l.prog w K mg base 1 "_law_once" (SpR K ROnce) := has__law_once B F__law_once b__law_once m__law_once
  have h_lby : Has l.prog w K mg base 2 "_law_by" (SpR K RBy) := has__law_by B F__law_by b__law_by m__law_by h_once
  have h_game : Has l.prog w K mg base 8 "_law_game" (SpR K (RGame 6)) := has__law_game (k := 2) B F__law_game b__law_game m__law_game (h_drawn.mono (by decide)) h_lby 6 (by decide)
  have h_cnt : Has l.prog w K mg base 7 "count_plays" (SpR K (RCount 7)) := has_count_plays (k := 0) B F_count_plays b_count_plays m_count_plays 7 (by decide)
  have h_pl : Has l.prog w K mg base 8 "play_at" (SpR K (RPlayAt 7)) := has_play_at B F_play_at b_play_at m_play_at (by decide) h_cnt
  have h_seen : Has l.prog w K mg base 3 "_law_seen" (SpM K (RMSeen cMatch)) := has__law_seen B T F__law_seen b__law_seen m__law_seen (h_st.mono (by decide)) (h_mo.mono (by decide)) (h_ta.mono (by decide)) h_ov
  exact has_law (k := 20) (j := 1) B T F_law (h_game.mono (by decide)) (h_mixed.mono (by decide)) (h_cnt.mono (by decide)) (h_pl.mono (by decide)) mk (by decide) (h_st.mono (by decide)) (h_mo.mono (by decide)) (h_ta.mono (by decide)) (h_ov.mono (by decide)) (h_mv.mono (by decide)) (h_ba.mono (by decide)) (h_fo.mono (by decide)) (h_tw.mono (by decide)) (h_seen.mono (by decide))
end LM
open PySem PySem.W PyProof.Rows
set_option maxHeartbeats 0 in
theorem PySem.Challenge.cw_lastmove_k61_whole_match_twins_holds : PySem.Challenge.rw_lastmove_k61_whole_match_twins.Holds := by
  w_on; o_law; k_head; (case hw => w_witness2)
  k_fill
  refine L2.walk_of (l := PySem.Challenge.rw_lastmove_k61_whole_match_twins) (n := 63) (k := 21) (x := "_law_script") (CX := fun _ => L2.CX0) (sp := fun w => LM.SpR _ LM.RLaw) rfl (by decide) rfl ⟨rfl, by decide, by decide⟩ (fun w h Y => PySem.W.kIn_of Y) ?F (fun _ _ a ns hl _ hS => ⟨[.list (ns.map PyData.int)], .bool true, _, Evl.Ex.refl _, .cons (.lst hS (LM.ints_dp ns)) .nil, ⟨ns, rfl, rfl⟩, fun v H2 Hm2 g hv => LM.dp_bool hv⟩) (fun _ _ _ _ _ h => h)
  case F =>
    intro w mg fa h KX G hmg
    refine' LM.all_mk KX G hmg ?a0 ?l0 ?c0 ?k0 ?a1 ?l1 ?c1 ?k1 ?a2 ?l2 ?c2 ?k2 ?a3 ?l3 ?c3 ?k3 ?a4 ?l4 ?c4 ?k4 ?a5 ?l5 ?c5 ?k5 ?a6 ?l6 ?c6 ?k6 ?a7 ?l7 ?c7 ?k7 ?a8 ?l8 ?c8 ?k8 ?a9 ?l9 ?c9 ?k9 ?z0 ?z1 ?z2 ?z3 ?z4 ?z5 ?z6 ?z7 ?z8 ?z9 ?z10 ?z11 ?z12 ?z13 ?z14 ?z15 ?z16 ?z17 ?z18 ?z19 ?oaMatch ?okMatch ?omMatch ?ogMatch ?ohMatch ?opMatch ?osMatch ?ma0 ?mi0 ?ml0 ?mc0 ?mk0 ?ma1 ?mi1 ?ml1 ?mc1 ?mk1 ?ma2 ?mi2 ?ml2 ?mc2 ?mk2 ?ma3 ?mi3 ?ml3 ?mc3 ?mk3 ?ma4 ?mi4 ?ml4 ?mc4 ?mk4 ?ma5 ?mi5 ?ml5 ?mc5 ?mk5 ?ma6 ?mi6 ?ml6 ?mc6 ?mk6 ?ma7 ?mi7 ?ml7 ?mc7 ?mk7 ?ma8 ?mi8 ?ml8 ?mc8 ?mk8 ?na0 ?na1 ?na2
    (case a0 => k_is); (case l0 => k_is); (case c0 => k_is); (case k0 => k_is)
    (case a1 => k_is); (case l1 => k_is); (case c1 => k_is); (case k1 => k_is)
    (case a2 => k_is); (case l2 => k_is); (case c2 => k_is); (case k2 => k_is)
    (case a3 => k_is); (case l3 => k_is); (case c3 => k_is); (case k3 => k_is)
    (case a4 => k_is); (case l4 => k_is); (case c4 => k_is); (case k4 => k_is)
    (case a5 => k_is); (case l5 => k_is); (case c5 => k_is); (case k5 => k_is)
    (case a6 => k_is); (case l6 => k_is); (case c6 => k_is); (case k6 => k_is)
    (case a7 => k_is); (case l7 => k_is); (case c7 => k_is); (case k7 => k_is)
    (case a8 => k_is); (case l8 => k_is); (case c8 => k_is); (case k8 => k_is)
    (case a9 => k_is); (case l9 => k_is); (case c9 => k_is); (case k9 => k_is)
    (case z0 => k_is); (case z1 => k_is); (case z2 => k_is); (case z3 => k_is); (case z4 => k_is); (case z5 => k_is); (case z6 => k_is); (case z7 => k_is); (case z8 => k_is); (case z9 => k_is); (case z10 => k_is); (case z11 => k_is); (case z12 => k_is); (case z13 => k_is); (case z14 => k_is); (case z15 => k_is); (case z16 => k_is); (case z17 => k_is); (case z18 => k_is); (case z19 => k_is)
    (case oaMatch => k_is); (case okMatch => k_is); (case omMatch => k_is); (case ogMatch => k_is); (case ohMatch => k_is); (case opMatch => k_is); (case osMatch => k_is)
    (case ma0 => k_is); (case mi0 => k_is); (case ml0 => k_is); (case mc0 => k_is); (case mk0 => k_is)
    (case ma1 => k_is); (case mi1 => k_is); (case ml1 => k_is); (case mc1 => k_is); (case mk1 => k_is)
    (case ma2 => k_is); (case mi2 => k_is); (case ml2 => k_is); (case mc2 => k_is); (case mk2 => k_is)
    (case ma3 => k_is); (case mi3 => k_is); (case ml3 => k_is); (case mc3 => k_is); (case mk3 => k_is)
    (case ma4 => k_is); (case mi4 => k_is); (case ml4 => k_is); (case mc4 => k_is); (case mk4 => k_is)
    (case ma5 => k_is); (case mi5 => k_is); (case ml5 => k_is); (case mc5 => k_is); (case mk5 => k_is)
    (case ma6 => k_is); (case mi6 => k_is); (case ml6 => k_is); (case mc6 => k_is); (case mk6 => k_is)
    (case ma7 => k_is); (case mi7 => k_is); (case ml7 => k_is); (case mc7 => k_is); (case mk7 => k_is)
    (case ma8 => k_is); (case mi8 => k_is); (case ml8 => k_is); (case mc8 => k_is); (case mk8 => k_is)
    (case na0 => k_is)
    (case na1 => k_is)
    (case na2 => k_is)
