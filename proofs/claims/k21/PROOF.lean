import PyProof.Rows.All
import Wide.All
import OpenK.AllK
import Wide.FinOn
import HandS.ForMost
import HandS.Evl
import HandS.SortOrd
import HandS.TupAny
import HandS.TupMul
import HandS.Deep
import KE.LtSeq
import HandS.IsInst
import HandS.TupLe
import HandS.SortRule
import HandS.TupSets
import HandS.SetFor
import KE.KeyNested
import HandS.Zip
import HandS.Text
import HandS.Codes
import KE.KRevSl
import HandS.Words
import HandS.Exc
import HandS.ExcOwn
import HandS.ExcIs
import HandS.TryOnly
import HandS.WordsExc
import PyProof.StrOps2
import KE.GoesMore
import HandS.Style
import HandS.Set
import KE.KDictKeyed
import HandS.Ends
import PyProof.ReprRoads
import PyProof.TupleOfSeq
import HandS.ExcValue
import PySem.Challenge.RW_lastmove_k21_whole_one_plain_form

set_option Elab.async false
set_option linter.all false
set_option maxRecDepth 100000
/-! Lm1: data in the place of heaps. A reading of the hand layer (TE, TS ..) is told by the data that stand in the slots (Rho):
ED te rho d: the expression gives the data d. XD ts rho om o: the statement ends as o says. Two heaps stand behind: H, all that is tracked,
and Hm, the part that is never changed any more; what a def changes itself (its own list) is in H alone. -/
namespace LM
open PySem L2 Evl

abbrev D := PySem.PyData
abbrev Rho := List (Option D)

/-! ### heaps -/
structure Gr (H Hm H2 Hm2 : Hp) : Prop where
  ex : Ex H H2
  em : Ex Hm Hm2
  sub : Ex Hm2 H2
  own : ∀ a o, H a = some o → Hm a = none → Hm2 a = none
section
variable {H Hm H1 Hm1 H2 Hm2 : Hp} {p : Addr} {o : HO}
theorem Gr.refl (s : Ex Hm H) : Gr H Hm H Hm := ⟨Ex.refl _, Ex.refl _, s, fun _ _ _ h => h⟩
theorem Gr.trans (a : Gr H Hm H1 Hm1) (b : Gr H1 Hm1 H2 Hm2) : Gr H Hm H2 Hm2 :=
  ⟨a.ex.trans b.ex, a.em.trans b.em, b.sub, fun x o h n => b.own x o (a.ex x o h) (a.own x o h n)⟩
theorem upd_ex (s : Ex Hm H) : Ex (upd Hm p o) (upd H p o) := fun a u h => by
  by_cases e : a = p
  · subst e; rw [upd_same] at h ⊢; exact h
  · rw [upd_ne e] at h ⊢; exact s a u h
/-- a new object for all -/
theorem Gr.new (s : Ex Hm H) (h : H p = none) : Gr H Hm (upd H p o) (upd Hm p o) := by
  have hm : Hm p = none := fresh_back s h
  refine ⟨Ex.new h, Ex.new hm, upd_ex s, fun a u e n => ?_⟩
  have hne : a ≠ p := ne_of_none e h
  rw [upd_ne hne]; exact n
/-- a new object of one's own -/
theorem Gr.priv (s : Ex Hm H) (h : H p = none) : Gr H Hm (upd H p o) Hm :=
  ⟨Ex.new h, Ex.refl _, s.trans (Ex.new h), fun _ _ _ n => n⟩
end

/-! ### data -/
section
variable {K : PySem.W.Frag} {H H' : Hp}
mutual
theorem dp_mono (e : Ex H H') : ∀ (d : D) (v : V), Dp K H v d → Dp K H' v d
  | .none, _, h => by cases h; exact .non
  | .bool b, _, h => by cases h; exact .bl b
  | .int i, _, h => by cases h; exact .int i
  | .str x, _, h => by cases h; exact .str x
  | .list ds, _, h => by
    cases h with
    | lst hs ha => exact .lst (ex_l e hs) (dps_mono e ds _ ha)
  | .tuple ds, _, h => by
    cases h with
    | tup hs ha => exact .tup (ex_t e hs) (dps_mono e ds _ ha)
  | .dict _, _, h => by cases h
theorem dps_mono (e : Ex H H') : ∀ (ds : List D) (vs : List V), DpAll K H vs ds → DpAll K H' vs ds
  | [], _, h => by cases h; exact .nil
  | d :: ds, _, h => by
    cases h with
    | cons h1 h2 => exact .cons (dp_mono e d _ h1) (dps_mono e ds _ h2)
end
end
end LM
namespace L2
open PySem Evl LM
section
variable {K : PySem.W.Frag} {H H' : Hp}
theorem Dp.mono {v : V} {d : D} (h : Dp K H v d) (e : Ex H H') : Dp K H' v d := dp_mono e d v h
theorem DpAll.mono {vs : List V} {ds : List D} (h : DpAll K H vs ds) (e : Ex H H') : DpAll K H' vs ds := dps_mono e ds vs h
theorem DpAll.len : ∀ {vs : List V} {ds : List D}, DpAll K H vs ds → vs.length = ds.length
  | _, _, .nil => rfl
  | _, _, .cons _ t => congrArg (· + 1) (DpAll.len t)
theorem DpAll.get : ∀ {vs : List V} {ds : List D} {i : Nat} {d : D}, DpAll K H vs ds → ds[i]? = some d → ∃ v, vs[i]? = some v ∧ Dp K H v d
  | _, _, _, _, .nil, e => by simp at e
  | _, _, 0, d, .cons h _, e => by
    have e' := Option.some.inj (show some _ = some d from e)
    subst e'; exact ⟨_, rfl, h⟩
  | _, _, i + 1, _, .cons _ t, e => by
    obtain ⟨v, h1, h2⟩ := DpAll.get (i := i) t (by simpa using e)
    exact ⟨v, by simpa using h1, h2⟩
theorem DpAll.get' {vs : List V} {ds : List D} {i : Nat} {v : V} (h : DpAll K H vs ds) (e : vs[i]? = some v) : ∃ d, ds[i]? = some d ∧ Dp K H v d := by
  have hl := h.len
  obtain ⟨hi, _⟩ := List.getElem?_eq_some_iff.mp e
  have hd : ds[i]? = some ds[i] := List.getElem?_eq_getElem (by omega)
  obtain ⟨w, h1, h2⟩ := h.get hd
  rw [e] at h1; cases h1
  exact ⟨_, hd, h2⟩
theorem DpAll.app : ∀ {vs ws : List V} {ds es : List D}, DpAll K H vs ds → DpAll K H ws es → DpAll K H (vs ++ ws) (ds ++ es)
  | _, _, _, _, .nil, h => h
  | _, _, _, _, .cons h t, h2 => .cons h (DpAll.app t h2)
theorem DpAll.snoc {vs : List V} {ds : List D} {v : V} {d : D} (h : DpAll K H vs ds) (hv : Dp K H v d) : DpAll K H (vs ++ [v]) (ds ++ [d]) := h.app (.cons hv .nil)
theorem DpAll.drop : ∀ {vs : List V} {ds : List D} (n : Nat), DpAll K H vs ds → DpAll K H (vs.drop n) (ds.drop n)
  | _, _, 0, h => h
  | _, _, _ + 1, .nil => .nil
  | _, _, n + 1, .cons _ t => DpAll.drop n t
theorem DpAll.take : ∀ {vs : List V} {ds : List D} (n : Nat), DpAll K H vs ds → DpAll K H (vs.take n) (ds.take n)
  | _, _, 0, _ => .nil
  | _, _, _ + 1, .nil => .nil
  | _, _, n + 1, .cons h t => .cons h (DpAll.take n t)
theorem DpAll.of_get : ∀ {vs : List V} {ds : List D}, vs.length = ds.length → (∀ (i : Nat) (v : V) (d : PyData), vs[i]? = some v → ds[i]? = some d → Dp K H v d) → DpAll K H vs ds
  | [], [], _, _ => .nil
  | v :: vs, d :: ds, hl, h => .cons (h 0 v d rfl rfl) (DpAll.of_get (by simpa using hl) fun i v d h1 h2 => h (i + 1) v d (by simpa using h1) (by simpa using h2))
  | [], _ :: _, hl, _ => by simp at hl
  | _ :: _, [], hl, _ => by simp at hl
end
end L2
namespace LM
open PySem L2 Evl
section
variable {K : PySem.W.Frag} {H H' : Hp}
theorem dp_int {v : V} {i : Int} (h : Dp K H v (.int i)) : v = .int i := by cases h; rfl
theorem dp_bool {v : V} {b : Bool} (h : Dp K H v (.bool b)) : v = .bl b := by cases h; rfl
theorem dp_str {v : V} {x : Str} (h : Dp K H v (.str x)) : v = .str x := by cases h; rfl
theorem dp_none {v : V} (h : Dp K H v .none) : v = .non := by cases h; rfl
theorem dp_tup {v : V} {ds : List D} (h : Dp K H v (.tuple ds)) : ∃ a xs, v = .ref a ∧ SqT K H a xs ∧ DpAll K H xs ds := by cases h with | tup hs ha => exact ⟨_, _, rfl, hs, ha⟩
theorem dp_lst {v : V} {ds : List D} (h : Dp K H v (.list ds)) : ∃ a xs, v = .ref a ∧ SqL K H a xs ∧ DpAll K H xs ds := by cases h with | lst hs ha => exact ⟨_, _, rfl, hs, ha⟩
theorem dp_ints : ∀ {vs : List V} {ns : List Int}, DpAll K H vs (ns.map PyData.int) → vs = ns.map V.int
  | _, [], .nil => rfl
  | _, _ :: _, .cons h t => by rw [dp_int h, dp_ints t]; rfl
theorem ints_dp : ∀ ns : List Int, DpAll K H (ns.map V.int) (ns.map PyData.int)
  | [] => .nil
  | n :: ns => .cons (.int n) (ints_dp ns)
theorem dp_bools : ∀ {vs : List V} {bs : List Bool}, DpAll K H vs (bs.map PyData.bool) → vs = bs.map V.bl
  | _, [], .nil => rfl
  | _, _ :: _, .cons h t => by rw [dp_bool h, dp_bools t]; rfl
theorem dp_strs : ∀ {vs : List V} {xs : List Str}, DpAll K H vs (xs.map PyData.str) → vs = xs.map V.str
  | _, [], .nil => rfl
  | _, _ :: _, .cons h t => by rw [dp_str h, dp_strs t]; rfl
end

/-! data without lists stay whatever list changes -/
mutual
def imm : D → Bool
  | .list _ => false
  | .dict _ => false
  | .tuple ds => imms ds
  | .none => true
  | .bool _ => true
  | .int _ => true
  | .str _ => true
def imms : List D → Bool
  | [] => true
  | d :: ds => imm d && imms ds
end
def era (H : Hp) (a : Addr) : Hp := fun b => if b = a then none else H b
theorem era_same {H : Hp} {a : Addr} : era H a a = none := by unfold era; rw [if_pos rfl]
theorem era_ne {H : Hp} {a b : Addr} (h : b ≠ a) : era H a b = H b := by unfold era; rw [if_neg h]
theorem era_ex {H : Hp} {a : Addr} : Ex (era H a) H := fun b o h => by
  by_cases e : b = a
  · subst e; rw [era_same] at h; cases h
  · rw [era_ne e] at h; exact h
theorem sqT_era {K : PySem.W.Frag} {H : Hp} {a p : Addr} {vs xs : List V} (ha : H a = some (.lst vs)) (h : SqT K H p xs) : SqT K (era H a) p xs := by
  rcases h with (h | ⟨o, h⟩) | h
  · have : p ≠ a := fun e => by subst e; rw [h] at ha; cases ha
    exact .inl (.inl (by rw [era_ne this]; exact h))
  · have : p ≠ a := fun e => by subst e; rw [h] at ha; cases ha
    exact .inl (.inr ⟨o, by rw [era_ne this]; exact h⟩)
  · exact .inr h
mutual
theorem dp_era {K : PySem.W.Frag} {H : Hp} {a : Addr} {ws : List V} (ha : H a = some (.lst ws)) : ∀ (d : D) (v : V), imm d = true → Dp K H v d → Dp K (era H a) v d
  | .none, _, _, h => by cases h; exact .non
  | .bool b, _, _, h => by cases h; exact .bl b
  | .int i, _, _, h => by cases h; exact .int i
  | .str x, _, _, h => by cases h; exact .str x
  | .list ds, _, q, _ => by simp [imm] at q
  | .tuple ds, _, q, h => by
    cases h with
    | tup hs hd => exact .tup (sqT_era ha hs) (dps_era ha ds _ (by simpa [imm] using q) hd)
  | .dict _, _, _, h => by cases h
theorem dps_era {K : PySem.W.Frag} {H : Hp} {a : Addr} {ws : List V} (ha : H a = some (.lst ws)) : ∀ (ds : List D) (vs : List V), imms ds = true → DpAll K H vs ds → DpAll K (era H a) vs ds
  | [], _, _, h => by cases h; exact .nil
  | d :: ds, _, q, h => by
    cases h with
    | cons h1 h2 =>
      simp only [imms, Bool.and_eq_true] at q
      exact .cons (dp_era ha d _ q.1 h1) (dps_era ha ds _ q.2 h2)
end

/-! ### slots -/
def Sd (K : PySem.W.Frag) (Hm : Hp) (σ : L2.St) (ρ : Rho) : Prop := ∀ (i : Nat) (d : D), ρ[i]? = some (some d) → ∃ v, σ[i]? = some (some v) ∧ Dp K Hm v d
theorem Sd.mono {K : PySem.W.Frag} {Hm Hm' : Hp} {σ : L2.St} {ρ : Rho} (h : Sd K Hm σ ρ) (e : Ex Hm Hm') : Sd K Hm' σ ρ := fun i d hi =>
  let ⟨v, h1, h2⟩ := h i d hi
  ⟨v, h1, h2.mono e⟩
theorem set_get {α : Type} {l : List α} {i j : Nat} {x y : α} (h : (l.set i x)[j]? = some y) : (j = i ∧ y = x ∧ i < l.length) ∨ (j ≠ i ∧ l[j]? = some y) := by
  by_cases e : i = j
  · subst e
    by_cases hi : i < l.length
    · rw [List.getElem?_set_self hi] at h
      exact .inl ⟨rfl, (Option.some.inj h).symm, hi⟩
    · rw [List.getElem?_eq_none (by simpa using hi)] at h
      cases h
  · rw [List.getElem?_set_ne e] at h
    exact .inr ⟨fun z => e z.symm, h⟩
theorem Sd.set {K : PySem.W.Frag} {Hm : Hp} {σ : L2.St} {ρ : Rho} {v : V} {d : D} (h : Sd K Hm σ ρ) (hl : ρ.length ≤ σ.length) (i : Nat) (hv : Dp K Hm v d) : Sd K Hm (σ.set i (some v)) (ρ.set i (some d)) := fun j e hj => by
  rcases set_get hj with ⟨rfl, e1, hi⟩ | ⟨hne, h1⟩
  · cases e1
    exact ⟨v, List.getElem?_set_self (by omega), hv⟩
  · obtain ⟨w, h2, h3⟩ := h j e h1
    exact ⟨w, by rw [List.getElem?_set_ne (Ne.symm hne)]; exact h2, h3⟩
/-- a slot is forgotten -/
theorem Sd.drop {K : PySem.W.Frag} {Hm : Hp} {σ : L2.St} {ρ : Rho} (h : Sd K Hm σ ρ) (i : Nat) (x : Option V) : Sd K Hm (σ.set i x) (ρ.set i none) := fun j e hj => by
  rcases set_get hj with ⟨rfl, e1, hi⟩ | ⟨hne, h1⟩
  · cases e1
  · obtain ⟨w, h2, h3⟩ := h j e h1
    exact ⟨w, by rw [List.getElem?_set_ne (Ne.symm hne)]; exact h2, h3⟩
theorem Sd.less {K : PySem.W.Frag} {Hm : Hp} {σ : L2.St} {ρ ρ' : Rho} (h : Sd K Hm σ ρ) (hw : ∀ (i : Nat) (d : D), ρ'[i]? = some (some d) → ρ[i]? = some (some d)) : Sd K Hm σ ρ' := fun i d hi => h i d (hw i d hi)
def wipeR (ρ : Rho) : List Nat → Rho
  | [] => ρ
  | v :: vs => (wipeR ρ vs).set v none
theorem Sd.wipe {K : PySem.W.Frag} {Hm : Hp} {σ : L2.St} {ρ : Rho} (h : Sd K Hm σ ρ) : ∀ vs : List Nat, Sd K Hm (wipe σ vs) (wipeR ρ vs)
  | [] => h
  | v :: vs => (Sd.wipe h vs).drop v none
theorem wipeR_length (ρ : Rho) : ∀ vs : List Nat, (wipeR ρ vs).length = ρ.length
  | [] => rfl
  | v :: vs => by unfold wipeR; rw [List.length_set, wipeR_length ρ vs]

/-! ### what an expression gives -/
section
variable (K : PySem.W.Frag)
def ED (te : TE) (ρ : Rho) (d : D) : Prop := ∀ σ H Hm, Ex Hm H → ρ.length ≤ σ.length → Sd K Hm σ ρ → ∀ Q : VK, (∀ v H2 Hm2, Gr H Hm H2 Hm2 → Dp K Hm2 v d → Q v H2) → te σ H Q
def EDs (ta : TA) (ρ : Rho) (ds : List D) : Prop := ∀ σ H Hm, Ex Hm H → ρ.length ≤ σ.length → Sd K Hm σ ρ → ∀ Q : List V → Hp → Prop, (∀ vs H2 Hm2, Gr H Hm H2 Hm2 → DpAll K Hm2 vs ds → Q vs H2) → ta σ H Q
def ET (tt : TT) (ρ : Rho) (b : Bool) : Prop := ∀ σ H Hm, Ex Hm H → ρ.length ≤ σ.length → Sd K Hm σ ρ → ∀ Q : Bool → Hp → Prop, (∀ H2 Hm2, Gr H Hm H2 Hm2 → Q b H2) → tt σ H Q
def EO (to : TO) (ρ : Rho) (o : Option Int) : Prop := ∀ σ H Hm, Ex Hm H → ρ.length ≤ σ.length → Sd K Hm σ ρ → ∀ Q : Option Int → Hp → Prop, (∀ H2 Hm2, Gr H Hm H2 Hm2 → Q o H2) → to σ H Q
/-- a new list of one's own -/
def EL (te : TE) (ρ : Rho) (ds : List D) : Prop := ∀ σ H Hm, Ex Hm H → ρ.length ≤ σ.length → Sd K Hm σ ρ → ∀ Q : VK,
  (∀ p vs H2 Hm2, Gr H Hm H2 Hm2 → H p = none → Hm2 p = none → H2 p = some (.lst vs) → DpAll K Hm2 vs ds → Q (.ref p) H2) → te σ H Q
def RD (r : R2) (a b c : D) : Prop := ∀ H Hm x y, Ex Hm H → Dp K Hm x a → Dp K Hm y b → ∀ Q : VK, (∀ v H2 Hm2, Gr H Hm H2 Hm2 → Dp K Hm2 v c → Q v H2) → r x y H Q
def UD (r : V → Hp → VK → Prop) (a c : D) : Prop := ∀ H Hm x, Ex Hm H → Dp K Hm x a → ∀ Q : VK, (∀ v H2 Hm2, Gr H Hm H2 Hm2 → Dp K Hm2 v c → Q v H2) → r x H Q
def CD (r : List V → Hp → VK → Prop) (ds : List D) (c : D) : Prop := ∀ H Hm xs, Ex Hm H → DpAll K Hm xs ds → ∀ Q : VK, (∀ v H2 Hm2, Gr H Hm H2 Hm2 → Dp K Hm2 v c → Q v H2) → r xs H Q
def CL (r : List V → Hp → VK → Prop) (ds : List D) (cs : List D) : Prop := ∀ H Hm xs, Ex Hm H → DpAll K Hm xs ds → ∀ Q : VK,
  (∀ p vs H2 Hm2, Gr H Hm H2 Hm2 → H p = none → Hm2 p = none → H2 p = some (.lst vs) → DpAll K Hm2 vs cs → Q (.ref p) H2) → r xs H Q
def MD (r : V → List V → Hp → VK → Prop) (a : D) (ds : List D) (c : D) : Prop := ∀ H Hm x xs, Ex Hm H → Dp K Hm x a → DpAll K Hm xs ds → ∀ Q : VK, (∀ v H2 Hm2, Gr H Hm H2 Hm2 → Dp K Hm2 v c → Q v H2) → r x xs H Q
end

section
variable {K : PySem.W.Frag} {ρ : Rho} {ta tb te tx : TE} {t u : TT} {a b c d : D} {ds es cs : List D} {r : R2}
theorem ed_is (h : ED K te ρ a) (e : a = b) : ED K te ρ b := e ▸ h
theorem et_is' {x y : Bool} (h : ET K t ρ x) (e : x = y) : ET K t ρ y := e ▸ h
theorem ed_var {i : Nat} (h : ρ[i]? = some (some d)) : ED K (tVar i) ρ d := fun σ H Hm s _ hs Q q =>
  let ⟨v, h1, h2⟩ := hs i d h
  ⟨v, h1, q v H Hm (Gr.refl s) h2⟩
theorem ed_int {i : Int} : ED K (tC (.int i)) ρ (.int i) := fun _ H Hm s _ _ _ q => q _ H Hm (Gr.refl s) (.int i)
theorem ed_bl {x : Bool} : ED K (tC (.bl x)) ρ (.bool x) := fun _ H Hm s _ _ _ q => q _ H Hm (Gr.refl s) (.bl x)
theorem ed_str {x : Str} : ED K (tC (.str x)) ρ (.str x) := fun _ H Hm s _ _ _ q => q _ H Hm (Gr.refl s) (.str x)
theorem ed_non : ED K (tC .non) ρ .none := fun _ H Hm s _ _ _ q => q _ H Hm (Gr.refl s) .non
theorem ed_op (ha : ED K ta ρ a) (hb : ED K tb ρ b) (hr : RD K r a b c) : ED K (tOp r ta tb) ρ c := fun σ H Hm s l hs Q q =>
  ha σ H Hm s l hs _ fun x H1 Hm1 g1 h1 => hb σ H1 Hm1 g1.sub l (hs.mono g1.em) _ fun y H2 Hm2 g2 h2 =>
    hr H2 Hm2 x y g2.sub (h1.mono g2.em) h2 Q fun v H3 Hm3 g3 h3 => q v H3 Hm3 ((g1.trans g2).trans g3) h3
theorem ed_un {r : V → Hp → VK → Prop} (ha : ED K ta ρ a) (hr : UD K r a c) : ED K (tUn r ta) ρ c := fun σ H Hm s l hs Q q =>
  ha σ H Hm s l hs _ fun x H1 Hm1 g1 h1 => hr H1 Hm1 x g1.sub h1 Q fun v H3 Hm3 g3 h3 => q v H3 Hm3 (g1.trans g3) h3
theorem eds_nil : EDs K tNil ρ [] := fun _ H Hm s _ _ _ q => q [] H Hm (Gr.refl s) .nil
theorem eds_cons {tr : TA} (h : ED K ta ρ d) (hr : EDs K tr ρ ds) : EDs K (tCons ta tr) ρ (d :: ds) := fun σ H Hm s l hs Q q =>
  h σ H Hm s l hs _ fun x H1 Hm1 g1 h1 => hr σ H1 Hm1 g1.sub l (hs.mono g1.em) _ fun xs H2 Hm2 g2 h2 => q _ H2 Hm2 (g1.trans g2) (.cons (h1.mono g2.em) h2)
theorem ed_tup {ta : TA} (h : EDs K ta ρ ds) (hl : ds.length ≤ 1000 := by decide) : ED K (tTup ta) ρ (.tuple ds) := fun σ H Hm s l hs Q q =>
  h σ H Hm s l hs _ fun vs H1 Hm1 g1 h1 => ⟨Nat.le_of_lt (small1000 (by rw [h1.len]; exact hl)), fun p hp =>
    q _ _ _ (g1.trans (Gr.new g1.sub hp)) (.tup (.inl (.inl upd_same)) (h1.mono (Ex.new (fresh_back g1.sub hp))))⟩
theorem el_lst {ta : TA} (h : EDs K ta ρ ds) (hl : ds.length ≤ 1000 := by decide) : EL K (tLst ta) ρ ds := fun σ H Hm s l hs Q q =>
  h σ H Hm s l hs _ fun vs H1 Hm1 g1 h1 => ⟨Nat.le_of_lt (small1000 (by rw [h1.len]; exact hl)), fun p hp =>
    q p vs _ Hm1 (g1.trans (Gr.priv g1.sub hp)) (fresh_back g1.ex hp) (fresh_back g1.sub hp) upd_same h1⟩
/-- a list that is one's own may be shown -/
theorem Gr.show {H Hm H2 Hm2 : Hp} {p : Addr} {vs : List V} (g : Gr H Hm H2 Hm2) (hp : H p = none) (hm : Hm2 p = none) (h2 : H2 p = some (.lst vs)) : Gr H Hm H2 (upd Hm2 p (.lst vs)) := by
  refine ⟨g.ex, g.em.trans (Ex.new hm), fun a o h => ?_, fun a o h n => ?_⟩
  · by_cases e : a = p
    · subst e; rw [upd_same] at h; cases h; exact h2
    · rw [upd_ne e] at h; exact g.sub a o h
  · rw [upd_ne (ne_of_none h hp)]; exact g.own a o h n
theorem ed_el (h : EL K te ρ ds) : ED K te ρ (.list ds) := fun σ H Hm s l hs Q q =>
  h σ H Hm s l hs _ fun p vs H2 Hm2 g hp hm h2 hd => q _ H2 _ (g.show hp hm h2) (.lst (.inl (.inl upd_same)) (hd.mono (Ex.new hm)))
theorem el_is (h : EL K te ρ ds) (e : ds = es) : EL K te ρ es := e ▸ h
theorem ed_cb {r : List V → Hp → VK → Prop} {ta : TA} (h : EDs K ta ρ ds) (hr : CD K r ds c) : ED K (tCB r ta) ρ c := fun σ H Hm s l hs Q q =>
  h σ H Hm s l hs _ fun xs H1 Hm1 g1 h1 => hr H1 Hm1 xs g1.sub h1 Q fun v H2 Hm2 g2 h2 => q v H2 Hm2 (g1.trans g2) h2
theorem el_cb {r : List V → Hp → VK → Prop} {ta : TA} (h : EDs K ta ρ ds) (hr : CL K r ds cs) : EL K (tCB r ta) ρ cs := fun σ H Hm s l hs Q q =>
  h σ H Hm s l hs _ fun xs H1 Hm1 g1 h1 => hr H1 Hm1 xs g1.sub h1 Q fun p vs H2 Hm2 g2 hp hm h2 hd => q p vs H2 Hm2 (g1.trans g2) (fresh_back g1.ex hp) hm h2 hd
/-- a def's promise by data -/
def SpR (K : PySem.W.Frag) (R : List D → D → Prop) : Sp := fun vs H Q _ => ∃ ds r Hm, Ex Hm H ∧ DpAll K Hm vs ds ∧ R ds r ∧ ∀ v H2 Hm2, Gr H Hm H2 Hm2 → Dp K Hm2 v r → Q v H2
theorem ed_call {R : List D → D → Prop} {E : XK} {ta : TA} (h : EDs K ta ρ ds) (hr : R ds d) : ED K (tCall (SpR K R) [] E ta) ρ d := fun σ H Hm s l hs Q q =>
  h σ H Hm s l hs _ fun xs H1 Hm1 g1 h1 => by
    show SpR K R (xs ++ []) H1 Q E
    rw [List.append_nil]
    exact ⟨ds, d, Hm1, g1.sub, h1, hr, fun v H2 Hm2 g2 h2 => q v H2 Hm2 (g1.trans g2) h2⟩
theorem et_test {x : Bool} (h : ED K te ρ (.bool x)) : ET K (tTest te) ρ x := fun σ H Hm s l hs Q q =>
  h σ H Hm s l hs _ fun v H2 Hm2 g h2 => ⟨x, dp_bool h2, q H2 Hm2 g⟩
theorem et_B {x : Bool} (h : ED K te ρ (.bool x)) : ET K (tB te) ρ x := fun σ H Hm s l hs Q q =>
  h σ H Hm s l hs _ fun v H2 Hm2 g h2 => ⟨x, dp_bool h2, q H2 Hm2 g⟩
theorem et_and {x y : Bool} (h1 : ET K t ρ x) (h2 : x = true → ET K u ρ y) : ET K (tAnd t u) ρ (x && y) := fun σ H Hm s l hs Q q => h1 σ H Hm s l hs _ fun H2 Hm2 g => by
  cases x with
  | true => exact h2 rfl σ H2 Hm2 g.sub l (hs.mono g.em) Q fun H3 Hm3 g3 => q H3 Hm3 (g.trans g3)
  | false => exact q H2 Hm2 g
theorem et_or {x y : Bool} (h1 : ET K t ρ x) (h2 : x = false → ET K u ρ y) : ET K (tOr t u) ρ (x || y) := fun σ H Hm s l hs Q q => h1 σ H Hm s l hs _ fun H2 Hm2 g => by
  cases x with
  | false => exact h2 rfl σ H2 Hm2 g.sub l (hs.mono g.em) Q fun H3 Hm3 g3 => q H3 Hm3 (g.trans g3)
  | true => exact q H2 Hm2 g
theorem et_not {x : Bool} (h1 : ET K t ρ x) : ET K (tNot t) ρ (!x) := fun σ H Hm s l hs Q q => h1 σ H Hm s l hs _ fun H2 Hm2 g => q H2 Hm2 g
theorem ed_andV {x y : Bool} (h1 : ED K ta ρ (.bool x)) (h2 : x = true → ED K tb ρ (.bool y)) : ED K (tAndV ta tb) ρ (.bool (x && y)) := fun σ H Hm s l hs Q q => h1 σ H Hm s l hs _ fun v H2 Hm2 g hv => ⟨x, dp_bool hv, by
  cases x with
  | true => exact h2 rfl σ H2 Hm2 g.sub l (hs.mono g.em) Q fun w H3 Hm3 g3 hw => q w H3 Hm3 (g.trans g3) hw
  | false => exact q _ H2 Hm2 g (.bl false)⟩
theorem ed_orV {x y : Bool} (h1 : ED K ta ρ (.bool x)) (h2 : x = false → ED K tb ρ (.bool y)) : ED K (tOrV ta tb) ρ (.bool (x || y)) := fun σ H Hm s l hs Q q => h1 σ H Hm s l hs _ fun v H2 Hm2 g hv => ⟨x, dp_bool hv, by
  cases x with
  | false => exact h2 rfl σ H2 Hm2 g.sub l (hs.mono g.em) Q fun w H3 Hm3 g3 hw => q w H3 Hm3 (g.trans g3) hw
  | true => exact q _ H2 Hm2 g (.bl true)⟩
theorem ed_notV {x : Bool} (h1 : ED K ta ρ (.bool x)) : ED K (tNotV ta) ρ (.bool (!x)) := fun σ H Hm s l hs Q q => h1 σ H Hm s l hs _ fun v H2 Hm2 g hv => ⟨x, dp_bool hv, q _ H2 Hm2 g (.bl _)⟩
theorem ed_if {x : Bool} (h : ET K t ρ x) (h1 : x = true → ED K ta ρ d) (h2 : x = false → ED K tb ρ d) : ED K (tIf t ta tb) ρ d := fun σ H Hm s l hs Q q => h σ H Hm s l hs _ fun H2 Hm2 g => by
  cases x with
  | true => exact h1 rfl σ H2 Hm2 g.sub l (hs.mono g.em) Q fun w H3 Hm3 g3 hw => q w H3 Hm3 (g.trans g3) hw
  | false => exact h2 rfl σ H2 Hm2 g.sub l (hs.mono g.em) Q fun w H3 Hm3 g3 hw => q w H3 Hm3 (g.trans g3) hw
theorem ed_chain {r r' : R2} {tc : TE} {x y : Bool} (ha : ED K ta ρ a) (hb : ED K tb ρ b) (h1 : RD K r a b (.bool x)) (h2 : x = true → ED K tc ρ c ∧ RD K r' b c (.bool y)) : ED K (tChain r r' ta tb tc) ρ (.bool (x && y)) := fun σ H Hm s l hs Q q =>
  ha σ H Hm s l hs _ fun vx H1 Hm1 g1 d1 => hb σ H1 Hm1 g1.sub l (hs.mono g1.em) _ fun vy H2 Hm2 g2 d2 =>
    h1 H2 Hm2 vx vy g2.sub (d1.mono g2.em) d2 _ fun vz H3 Hm3 g3 d3 => ⟨x, dp_bool d3, by
      have g := (g1.trans g2).trans g3
      cases x with
      | true =>
        obtain ⟨hc, hr⟩ := h2 rfl
        show tc σ H3 fun w' H4 => r' vy w' H4 Q
        exact hc σ H3 Hm3 g.sub l (hs.mono g.em) _ fun vw H4 Hm4 g4 d4 => hr H4 Hm4 vy vw g4.sub (d2.mono (g3.em.trans g4.em)) d4 Q fun v H5 Hm5 g5 d5 => q v H5 Hm5 ((g.trans g4).trans g5) d5
      | false =>
        show Q (.bl false) H3
        exact q _ H3 Hm3 g (.bl false)⟩
theorem eo_none : EO K tNoPart ρ none := fun _ H Hm s _ _ _ q => q H Hm (Gr.refl s)
theorem eo_some {i : Int} (h : ED K te ρ (.int i)) : EO K (tPart te) ρ (some i) := fun σ H Hm s l hs Q q => h σ H Hm s l hs _ fun v H2 Hm2 g hv => ⟨i, dp_int hv, q H2 Hm2 g⟩
end

/-! ### operators -/
section
variable {K : PySem.W.Frag}
theorem rd_I0 {g : Int → Int → V} {g' : Int → Int → D} {i j : Int} (hg : ∀ (H : Hp), Dp K H (g i j) (g' i j)) : RD K (rI0 g) (.int i) (.int j) (g' i j) := fun H Hm x y s hx hy Q q => ⟨i, j, dp_int hx, dp_int hy, q _ H Hm (Gr.refl s) (hg _)⟩
theorem rd_add {i j : Int} : RD K (rI0 fun i j => .int (i + j)) (.int i) (.int j) (.int (i + j)) := rd_I0 (g' := fun i j => .int (i + j)) fun _ => .int _
theorem rd_sub {i j : Int} : RD K (rI0 fun i j => .int (i - j)) (.int i) (.int j) (.int (i - j)) := rd_I0 (g' := fun i j => .int (i - j)) fun _ => .int _
theorem rd_I {C : Int → Int → Prop} {g : Int → Int → V} {g' : Int → Int → D} {i j : Int} (hc : C i j) (hg : ∀ (H : Hp), Dp K H (g i j) (g' i j)) : RD K (rI C g) (.int i) (.int j) (g' i j) := fun H Hm x y s hx hy Q q => ⟨i, j, dp_int hx, dp_int hy, hc, q _ H Hm (Gr.refl s) (hg _)⟩
theorem rd_mul {i j : Int} (h : CMul i j) : RD K (rI CMul fun i j => .int (i * j)) (.int i) (.int j) (.int (i * j)) := rd_I (g' := fun i j => .int (i * j)) h fun _ => .int _
theorem rd_mod {i j : Int} (h : 0 < j := by decide) : RD K (rI (fun _ j => 0 < j) fun i j => .int (i % j)) (.int i) (.int j) (.int (i % j)) := rd_I (g' := fun i j => .int (i % j)) h fun _ => .int _
theorem rd_div {i j : Int} (h : CDiv i j) : RD K (rI CDiv fun i j => .int (i / j)) (.int i) (.int j) (.int (i / j)) := rd_I (g' := fun i j => .int (i / j)) h fun _ => .int _
theorem rd_lt {i j : Int} : RD K (rI0 fun i j => .bl (decide (i < j))) (.int i) (.int j) (.bool (decide (i < j))) := rd_I0 (g' := fun i j => .bool (decide (i < j))) fun _ => .bl _
theorem rd_le {i j : Int} : RD K (rI0 fun i j => .bl (decide (i ≤ j))) (.int i) (.int j) (.bool (decide (i ≤ j))) := rd_I0 (g' := fun i j => .bool (decide (i ≤ j))) fun _ => .bl _
theorem rd_gt {i j : Int} : RD K (rI0 fun i j => .bl (decide (i > j))) (.int i) (.int j) (.bool (decide (i > j))) := rd_I0 (g' := fun i j => .bool (decide (i > j))) fun _ => .bl _
theorem rd_ge {i j : Int} : RD K (rI0 fun i j => .bl (decide (i ≥ j))) (.int i) (.int j) (.bool (decide (i ≥ j))) := rd_I0 (g' := fun i j => .bool (decide (i ≥ j))) fun _ => .bl _
theorem rd_eqD {a b : D} (ha : SeqAt.shaped a = true) (hb : SeqAt.shaped b = true) : RD K (rEqD K) a b (.bool (PyData.eqv a b)) := fun H Hm x y s hx hy Q q => ⟨a, b, hx.mono s, hy.mono s, ha, hb, q _ H Hm (Gr.refl s) (.bl _)⟩
theorem rd_neD {a b : D} (ha : SeqAt.shaped a = true) (hb : SeqAt.shaped b = true) : RD K (rNeD K) a b (.bool (!PyData.eqv a b)) := fun H Hm x y s hx hy Q q => ⟨a, b, hx.mono s, hy.mono s, ha, hb, q _ H Hm (Gr.refl s) (.bl _)⟩
theorem ud_neg {i : Int} : UD K (rU fun i => .int (-i)) (.int i) (.int (-i)) := fun H Hm x s hx Q q => ⟨i, dp_int hx, q _ H Hm (Gr.refl s) (.int _)⟩
/-- xs[i], t[i] -/
theorem rd_ixT {ds : List D} {i : Int} {d : D} (h : atI ds i = some d) : RD K (rIxT K) (.tuple ds) (.int i) d := fun H Hm x y s hx hy Q q => by
  obtain ⟨a, xs, rfl, hs, ha⟩ := dp_tup hx
  have hl := ha.len
  unfold atI at h
  obtain ⟨j, h1, h2⟩ := Option.bind_eq_some_iff.mp h
  obtain ⟨v, h3, h4⟩ := ha.get h2
  exact ⟨a, xs, i, v, rfl, dp_int hy, ex_t s hs, by unfold atI; rw [hl, h1]; exact h3, q v H Hm (Gr.refl s) h4⟩
theorem rd_ixL {ds : List D} {i : Int} {d : D} (h : atI ds i = some d) : RD K (rIxL K) (.list ds) (.int i) d := fun H Hm x y s hx hy Q q => by
  obtain ⟨a, xs, rfl, hs, ha⟩ := dp_lst hx
  have hl := ha.len
  unfold atI at h
  obtain ⟨j, h1, h2⟩ := Option.bind_eq_some_iff.mp h
  obtain ⟨v, h3, h4⟩ := ha.get h2
  exact ⟨a, xs, i, v, rfl, dp_int hy, ex_l s hs, by unfold atI; rw [hl, h1]; exact h3, q v H Hm (Gr.refl s) h4⟩
/-- t + u -/
theorem rd_catT {ds es : List D} (hl : ds.length + es.length ≤ 100000) : RD K (rCatA K) (.tuple ds) (.tuple es) (.tuple (ds ++ es)) := fun H Hm x y s hx hy Q q => by
  obtain ⟨a, xs, rfl, hs, ha⟩ := dp_tup hx
  obtain ⟨b, ys, rfl, ht, hb⟩ := dp_tup hy
  have l1 := ha.len
  have l2 := hb.len
  refine ⟨a, b, xs, ys, rfl, rfl, ex_t s hs, ex_t s ht, sz_of (by omega), fun e => ?_, fun e e2 => ?_, fun _ _ p hp => ?_⟩
  · have : ds = [] := by
      cases ds with
      | nil => rfl
      | cons _ _ => rw [e] at l1; simp at l1
    subst this
    exact q _ H Hm (Gr.refl s) (.tup ht hb)
  · have : es = [] := by
      cases es with
      | nil => rfl
      | cons _ _ => rw [e2] at l2; simp at l2
    subst this
    rw [List.append_nil] at q
    exact q _ H Hm (Gr.refl s) (.tup hs ha)
  · have em : Ex Hm (upd Hm p (.tup (xs ++ ys))) := Ex.new (fresh_back s hp)
    exact q _ _ _ (Gr.new s hp) (.tup (.inl (.inl upd_same)) ((ha.mono em).app (hb.mono em)))
/-- len -/
theorem cd_lenT {ds : List D} : CD K (fun xs H Q => ∃ a ys, xs = [.ref a] ∧ (SqL K H a ys ∨ SqT K H a ys) ∧ Q (.int ys.length) H) [.tuple ds] (.int ds.length) := fun H Hm xs s hx Q q => by
  cases hx with
  | cons h t =>
    cases t
    obtain ⟨a, ys, rfl, hs, ha⟩ := dp_tup h
    exact ⟨a, ys, rfl, .inr (ex_t s hs), by rw [ha.len]; exact q _ H Hm (Gr.refl s) (.int _)⟩
end
end LM

set_option Elab.async false
set_option linter.all false
set_option maxRecDepth 100000
/-! Lm2: comprehensions, calls of built-ins, statements, by data. -/
namespace LM
open PySem L2 Evl

/-! ### comprehensions -/
section
variable {K : PySem.W.Frag} {ρ : Rho} {te : TE} {t : TT} {j : Nat}
/-- at turn i of a comprehension whose list stands at Dl -/
def Cp (K : PySem.W.Frag) (H1 Hm1 : Hp) (Dl : Addr) (es : List D) (H' : Hp) : Prop := ∃ Hm' acc, Gr H1 Hm1 H' Hm' ∧ Hm' Dl = none ∧ H' Dl = some (.lst acc) ∧ DpAll K Hm' acc es
theorem cp_turn {H1 Hm1 H' : Hp} {Dl : Addr} {σ : L2.St} {x : V} {d d' : D} {es : List D} {b : Bool} (hD : H1 Dl = none) (s1 : Ex Hm1 H1) (l : ρ.length ≤ σ.length) (hs : Sd K Hm1 σ ρ) (hx : Dp K Hm1 x d) (p : Cp K H1 Hm1 Dl es H') (hz : es.length < 100000)
    (ht : ET K t ((wipeR ρ [j]).set j (some d)) b) (he : b = true → ED K te ((wipeR ρ [j]).set j (some d)) d') :
    t ((wipe σ [j]).set j (some x)) H' fun c H3 => if c = true then te ((wipe σ [j]).set j (some x)) H3 fun y H4 => ∃ acc, H4 Dl = some (.lst acc) ∧ acc.length < sizeLine ∧ Cp K H1 Hm1 Dl (es ++ (if b = true then [d'] else [])) (upd H4 Dl (.lst (acc ++ [y])))
      else Cp K H1 Hm1 Dl (es ++ (if b = true then [d'] else [])) H3 := by
  obtain ⟨Hm', acc, g, n1, n2, n3⟩ := p
  have l2 : ((wipeR ρ [j]).set j (some d)).length ≤ ((wipe σ [j]).set j (some x)).length := by rw [List.length_set, List.length_set, wipeR_length, wipe_length]; exact l
  have l3 : (wipeR ρ [j]).length ≤ (wipe σ [j]).length := by rw [wipeR_length, wipe_length]; exact l
  have S : Sd K Hm' ((wipe σ [j]).set j (some x)) ((wipeR ρ [j]).set j (some d)) := ((hs.mono g.em).wipe [j]).set l3 j (hx.mono g.em)
  refine ht _ H' Hm' g.sub l2 S _ fun H3 Hm3 g3 => ?_
  cases b with
  | true =>
    simp only [if_true]
    refine he rfl _ H3 Hm3 g3.sub l2 (S.mono g3.em) _ fun y H4 Hm4 g4 hy => ?_
    have g5 := g3.trans g4
    have e4 : H4 Dl = some (.lst acc) := g5.ex _ _ n2
    have m4 : Hm4 Dl = none := g5.own _ _ n2 n1
    refine ⟨acc, e4, sz_lt (by rw [n3.len]; exact hz), Hm4, acc ++ [y], ⟨?_, g.em.trans g5.em, ?_, ?_⟩, m4, upd_same, (n3.mono g5.em).snoc hy⟩
    · exact Ex.mut (g.ex.trans g5.ex) hD
    · intro a o h
      have : a ≠ Dl := fun e => by subst e; rw [m4] at h; cases h
      rw [upd_ne this]; exact g4.sub a o h
    · exact (g.trans g5).own
  | false =>
    simp only [Bool.false_eq_true, if_false, List.append_nil]
    exact ⟨Hm3, acc, g.trans g3, g3.own _ _ n2 n1, g3.ex _ _ n2, n3.mono g3.em⟩
def filtmap (p : D → Bool) (f : D → D) : List D → List D
  | [] => []
  | d :: ds => (if p d = true then [f d] else []) ++ filtmap p f ds
theorem filtmap_eq (p : D → Bool) (f : D → D) : ∀ ds, filtmap p f ds = (ds.filter p).map f
  | [] => rfl
  | d :: ds => by
    show (if p d = true then [f d] else []) ++ filtmap p f ds = _
    rw [filtmap_eq p f ds]
    cases h : p d <;> simp [h]
theorem filtmap_app (p : D → Bool) (f : D → D) : ∀ ds es, filtmap p f (ds ++ es) = filtmap p f ds ++ filtmap p f es
  | [], es => rfl
  | d :: ds, es => by
    show (if p d = true then [f d] else []) ++ filtmap p f (ds ++ es) = ((if p d = true then [f d] else []) ++ filtmap p f ds) ++ filtmap p f es
    rw [filtmap_app p f ds es, List.append_assoc]
theorem filtmap_take (p : D → Bool) (f : D → D) {ds : List D} {i : Nat} {d : D} (h : ds[i]? = some d) : filtmap p f (ds.take (i + 1)) = filtmap p f (ds.take i) ++ (if p d = true then [f d] else []) := by
  rw [List.take_add_one, h, filtmap_app]
  show _ ++ ((if p d = true then [f d] else []) ++ []) = _
  rw [List.append_nil]
theorem filtmap_len (p : D → Bool) (f : D → D) : ∀ ds, (filtmap p f ds).length ≤ ds.length
  | [] => Nat.le_refl _
  | d :: ds => by
    have := filtmap_len p f ds
    show ((if p d = true then [f d] else []) ++ filtmap p f ds).length ≤ ds.length + 1
    rw [List.length_append]
    cases p d <;> simp <;> omega
theorem wipe_back {σ : L2.St} {j : Nat} {x : V} : wipe ((wipe σ [j]).set j (some x)) [j] = wipe σ [j] := by
  show (((σ.set j none).set j (some x)).set j none) = σ.set j none
  rw [List.set_set, List.set_set]
theorem el_lcT {tl : TE} {ds : List D} (p : D → Bool) (f : D → D) (hsrc : ED K tl ρ (.tuple ds)) (ht : ∀ d ∈ ds, ET K t ((wipeR ρ [j]).set j (some d)) (p d)) (he : ∀ d ∈ ds, p d = true → ED K te ((wipeR ρ [j]).set j (some d)) (f d)) (hz : ds.length ≤ 50000 := by first | assumption | decide | omega) :
    EL K (tLc (iTup K tl) (gName j) t te [j]) ρ ((ds.filter p).map f) := fun σ H Hm s l hs Q q => by
  refine hsrc σ H Hm s l hs _ fun v H1 Hm1 g1 h1 => ?_
  obtain ⟨a, xs, rfl, hx, ha⟩ := dp_tup h1
  refine ⟨a, rfl, ⟨xs, ex_t g1.sub hx⟩, fun Dl hD => ?_⟩
  have hl := ha.len
  refine lc_tup (xs := xs) (fun i H' => Cp K H1 Hm1 Dl (filtmap p f (ds.take i)) H') ?_ (fun i H' _ c => ?_) (fun i x H' hi c => ?_) (fun H' c => ?_)
  · exact ⟨Hm1, [], Gr.priv g1.sub hD, fresh_back g1.sub hD, upd_same, .nil⟩
  · obtain ⟨_, _, g, _⟩ := c
    exact ex_t g.sub (ex_t g.em hx)
  · obtain ⟨d, hd, hxd⟩ := ha.get' hi
    have hm : d ∈ ds := List.mem_of_getElem? hd
    refine ⟨wipe_back, ?_⟩
    have c' := cp_turn (t := t) (te := te) (j := j) (d' := f d) (b := p d) hD g1.sub l (hs.mono g1.em) hxd c (by have h1 := filtmap_len p f (ds.take i); rw [List.length_take] at h1; omega) (ht d hm) (he d hm)
    rw [← filtmap_take p f hd] at c'
    exact c'
  · rw [hl, List.take_length, filtmap_eq] at c
    obtain ⟨Hm', acc, g, n1, n2, n3⟩ := c
    exact q Dl acc H' Hm' (g1.trans g) (fresh_back g1.ex hD) n1 n2 n3
theorem el_lcL {tl : TE} {ds : List D} (p : D → Bool) (f : D → D) (hsrc : ED K tl ρ (.list ds)) (ht : ∀ d ∈ ds, ET K t ((wipeR ρ [j]).set j (some d)) (p d)) (he : ∀ d ∈ ds, p d = true → ED K te ((wipeR ρ [j]).set j (some d)) (f d)) (hz : ds.length ≤ 50000 := by first | assumption | decide | omega) :
    EL K (tLc (iList K tl) (gName j) t te [j]) ρ ((ds.filter p).map f) := fun σ H Hm s l hs Q q => by
  refine hsrc σ H Hm s l hs _ fun v H1 Hm1 g1 h1 => ?_
  obtain ⟨a, xs, rfl, hx, ha⟩ := dp_lst h1
  refine ⟨a, rfl, ⟨xs, ex_l g1.sub hx⟩, fun Dl hD => ?_⟩
  have hl := ha.len
  refine lc_list (xs := xs) (fun i H' => Cp K H1 Hm1 Dl (filtmap p f (ds.take i)) H') ?_ (fun i H' _ c => ?_) (fun i x H' hi c => ?_) (fun H' c => ?_)
  · exact ⟨Hm1, [], Gr.priv g1.sub hD, fresh_back g1.sub hD, upd_same, .nil⟩
  · obtain ⟨_, _, g, _⟩ := c
    exact ex_l g.sub (ex_l g.em hx)
  · obtain ⟨d, hd, hxd⟩ := ha.get' hi
    have hm : d ∈ ds := List.mem_of_getElem? hd
    refine ⟨wipe_back, ?_⟩
    have c' := cp_turn (t := t) (te := te) (j := j) (d' := f d) (b := p d) hD g1.sub l (hs.mono g1.em) hxd c (by have h1 := filtmap_len p f (ds.take i); rw [List.length_take] at h1; omega) (ht d hm) (he d hm)
    rw [← filtmap_take p f hd] at c'
    exact c'
  · rw [hl, List.take_length, filtmap_eq] at c
    obtain ⟨Hm', acc, g, n1, n2, n3⟩ := c
    exact q Dl acc H' Hm' (g1.trans g) (fresh_back g1.ex hD) n1 n2 n3
/-- the ints lo, lo + 1, .. -/
def rngD (lo : Int) (n : Nat) : List D := (List.range n).map fun (i : Nat) => PySem.PyData.int (lo + (i : Int))
theorem rngD_get {lo : Int} {n i : Nat} (h : i < n) : (rngD lo n)[i]? = some (.int (lo + (i : Int))) := by
  unfold rngD
  rw [List.getElem?_map, List.getElem?_range h]; rfl
theorem rngD_len (lo : Int) (n : Nat) : (rngD lo n).length = n := by unfold rngD; rw [List.length_map, List.length_range]
theorem lcR_core {lo : Int} {n : Nat} (p : D → Bool) (f : D → D) {σ : L2.St} {H1 Hm1 : Hp} (s1 : Ex Hm1 H1) (l : ρ.length ≤ σ.length) (hs : Sd K Hm1 σ ρ) {Q : VK} {Dl : Addr} (hD : H1 Dl = none) (hz : n ≤ 50000)
    (ht : ∀ d ∈ rngD lo n, ET K t ((wipeR ρ [j]).set j (some d)) (p d)) (he : ∀ d ∈ rngD lo n, p d = true → ED K te ((wipeR ρ [j]).set j (some d)) (f d))
    (q : ∀ acc H' Hm', Gr H1 Hm1 H' Hm' → Hm' Dl = none → H' Dl = some (.lst acc) → DpAll K Hm' acc (((rngD lo n).filter p).map f) → Q (.ref Dl) H') :
    ∃ W : Nat → Nat → Hp → Prop, (∃ m, W 0 m (upd H1 Dl (.lst []))) ∧ ∀ i m H, W i m H →
      ((Itr lo n).stop i H ∧ Q (.ref Dl) H) ∨ ((Itr lo n).go i H ∧ ∃ Nx : Hp → Prop, (∀ H', Nx H' → ∃ m', m' < m ∧ W (i + 1) m' H') ∧ ∀ x H', (Itr lo n).yld i H x H' → gName j x (wipe σ [j]) H' fun σ2 H2 => wipe σ2 [j] = wipe σ [j] ∧ t σ2 H2 fun b H3 =>
        if b = true then te σ2 H3 fun y H4 => ∃ acc, H4 Dl = some (.lst acc) ∧ acc.length < sizeLine ∧ Nx (upd H4 Dl (.lst (acc ++ [y]))) else Nx H3) := by
  refine lc_range (lo := lo) (n := n) (Qd := Q (.ref Dl)) (fun i H' => Cp K H1 Hm1 Dl (filtmap p f ((rngD lo n).take i)) H') ?_ (fun i H' hi c => ?_) (fun H' c => ?_)
  · exact ⟨Hm1, [], Gr.priv s1 hD, fresh_back s1 hD, upd_same, .nil⟩
  · have hd := rngD_get (lo := lo) hi
    have hm : PyData.int (lo + (i : Int)) ∈ rngD lo n := List.mem_of_getElem? hd
    refine ⟨wipe_back, ?_⟩
    have c' := cp_turn (t := t) (te := te) (j := j) (d' := f (.int (lo + (i : Int)))) (b := p (.int (lo + (i : Int)))) hD s1 l hs (.int _) c (by have h1 := filtmap_len p f ((rngD lo n).take i); have h2 := rngD_len lo n; rw [List.length_take] at h1; omega) (ht _ hm) (he _ hm)
    rw [← filtmap_take p f hd] at c'
    exact c'
  · have hl := rngD_len lo n
    rw [List.take_of_length_le (by omega), filtmap_eq] at c
    obtain ⟨Hm', acc, g, n1, n2, n3⟩ := c
    exact q acc H' Hm' g n1 n2 n3
theorem el_lcR1 {ta : TA} {n : Int} (p : D → Bool) (f : D → D) (hsrc : EDs K ta ρ [.int n]) (hn : 0 ≤ n ∧ n ≤ 50000) (ht : ∀ d ∈ rngD 0 n.toNat, ET K t ((wipeR ρ [j]).set j (some d)) (p d)) (he : ∀ d ∈ rngD 0 n.toNat, p d = true → ED K te ((wipeR ρ [j]).set j (some d)) (f d)) :
    EL K (tLc (iRng1 ta) (gName j) t te [j]) ρ (((rngD 0 n.toNat).filter p).map f) := fun σ H Hm s l hs Q q => by
  refine hsrc σ H Hm s l hs _ fun vs H1 Hm1 g1 h1 => ?_
  have ev : vs = [.int n] := dp_ints (ns := [n]) h1
  subst ev
  refine ⟨n, rfl, by omega, by omega, fun Dl hD => ?_⟩
  exact lcR_core p f g1.sub l (hs.mono g1.em) hD (by omega) ht he fun acc H' Hm' g n1 n2 n3 => q Dl acc H' Hm' (g1.trans g) (fresh_back g1.ex hD) n1 n2 n3
theorem el_lcR2 {ta : TA} {lo n : Int} (p : D → Bool) (f : D → D) (hsrc : EDs K ta ρ [.int lo, .int n]) (hn : -100000 ≤ lo ∧ lo ≤ 100000 ∧ -100000 ≤ n ∧ n ≤ 100000 ∧ n - lo ≤ 50000) (ht : ∀ d ∈ rngD lo (n - lo).toNat, ET K t ((wipeR ρ [j]).set j (some d)) (p d)) (he : ∀ d ∈ rngD lo (n - lo).toNat, p d = true → ED K te ((wipeR ρ [j]).set j (some d)) (f d)) :
    EL K (tLc (iRng2 ta) (gName j) t te [j]) ρ (((rngD lo (n - lo).toNat).filter p).map f) := fun σ H Hm s l hs Q q => by
  refine hsrc σ H Hm s l hs _ fun vs H1 Hm1 g1 h1 => ?_
  have ev : vs = [.int lo, .int n] := dp_ints (ns := [lo, n]) h1
  subst ev
  refine ⟨lo, n, rfl, by omega, fun Dl hD => ?_⟩
  exact lcR_core p f g1.sub l (hs.mono g1.em) hD (by omega) ht he fun acc H' Hm' g n1 n2 n3 => q Dl acc H' Hm' (g1.trans g) (fresh_back g1.ex hD) n1 n2 n3
theorem et_yes {ρ : Rho} : ET K tYes ρ true := fun _ H Hm s _ _ _ q => q H Hm (Gr.refl s)
theorem filt_all {α : Type} (l : List α) : l.filter (fun _ => true) = l := List.filter_eq_self.mpr fun _ _ => rfl
/-- without a test -/
theorem el_mapT {tl : TE} {ds : List D} (f : D → D) (hsrc : ED K tl ρ (.tuple ds)) (he : ∀ d ∈ ds, ED K te ((wipeR ρ [j]).set j (some d)) (f d)) (hz : ds.length ≤ 50000 := by first | assumption | decide | omega) :
    EL K (tLc (iTup K tl) (gName j) tYes te [j]) ρ (ds.map f) := el_is (el_lcT (fun _ => true) f hsrc (fun _ _ => et_yes) (fun d h _ => he d h) hz) (by rw [filt_all])
theorem el_mapL {tl : TE} {ds : List D} (f : D → D) (hsrc : ED K tl ρ (.list ds)) (he : ∀ d ∈ ds, ED K te ((wipeR ρ [j]).set j (some d)) (f d)) (hz : ds.length ≤ 50000 := by first | assumption | decide | omega) :
    EL K (tLc (iList K tl) (gName j) tYes te [j]) ρ (ds.map f) := el_is (el_lcL (fun _ => true) f hsrc (fun _ _ => et_yes) (fun d h _ => he d h) hz) (by rw [filt_all])
theorem el_mapR1 {ta : TA} {n : Int} (f : D → D) (hsrc : EDs K ta ρ [.int n]) (hn : 0 ≤ n ∧ n ≤ 50000) (he : ∀ d ∈ rngD 0 n.toNat, ED K te ((wipeR ρ [j]).set j (some d)) (f d)) :
    EL K (tLc (iRng1 ta) (gName j) tYes te [j]) ρ ((rngD 0 n.toNat).map f) := el_is (el_lcR1 (fun _ => true) f hsrc hn (fun _ _ => et_yes) (fun d h _ => he d h)) (by rw [filt_all])
end

/-! ### built-ins -/
section
variable {K : PySem.W.Frag}
theorem dps1 {H : Hp} {xs : List V} {d : D} (h : DpAll K H xs [d]) : ∃ v, xs = [v] ∧ Dp K H v d := by
  cases h with | cons h t => cases t; exact ⟨_, rfl, h⟩
theorem dps2 {H : Hp} {xs : List V} {d e : D} (h : DpAll K H xs [d, e]) : ∃ v w, xs = [v, w] ∧ Dp K H v d ∧ Dp K H w e := by
  cases h with | cons h t => cases t with | cons h2 t => cases t; exact ⟨_, _, rfl, h, h2⟩
abbrev rLen (K : PySem.W.Frag) : List V → Hp → VK → Prop := fun xs H Q => ∃ p ys, xs = [.ref p] ∧ (SqL K H p ys ∨ SqT K H p ys) ∧ Q (.int ys.length) H
theorem cd_lenL {ds : List D} : CD K (rLen K) [.list ds] (.int ds.length) := fun H Hm xs s hx Q q => by
  obtain ⟨v, rfl, h⟩ := dps1 hx
  obtain ⟨a, ys, rfl, hs, ha⟩ := dp_lst h
  exact ⟨a, ys, rfl, .inl (ex_l s hs), by rw [ha.len]; exact q _ H Hm (Gr.refl s) (.int _)⟩
theorem cd_any {bs : List Bool} {ds : List D} (e : ds = bs.map PyData.bool) : CD K (rAny K) [.list ds] (.bool (bs.any id)) := fun H Hm xs s hx Q q => by
  subst e
  obtain ⟨v, rfl, h⟩ := dps1 hx
  obtain ⟨a, ys, rfl, hs, ha⟩ := dp_lst h
  have := dp_bools ha
  subst this
  exact ⟨a, bs, rfl, ex_l s hs, q _ H Hm (Gr.refl s) (.bl _)⟩
theorem cd_all {bs : List Bool} {ds : List D} (e : ds = bs.map PyData.bool) : CD K (rAll K) [.list ds] (.bool (bs.all id)) := fun H Hm xs s hx Q q => by
  subst e
  obtain ⟨v, rfl, h⟩ := dps1 hx
  obtain ⟨a, ys, rfl, hs, ha⟩ := dp_lst h
  have := dp_bools ha
  subst this
  exact ⟨a, bs, rfl, ex_l s hs, q _ H Hm (Gr.refl s) (.bl _)⟩
theorem cd_sum {ns : List Int} {ds : List D} (e : ds = ns.map PyData.int) : CD K (rSum K) [.list ds] (.int ns.sum) := fun H Hm xs s hx Q q => by
  subst e
  obtain ⟨v, rfl, h⟩ := dps1 hx
  obtain ⟨a, ys, rfl, hs, ha⟩ := dp_lst h
  have := dp_ints ha
  subst this
  exact ⟨a, ns, rfl, ex_l s hs, q _ H Hm (Gr.refl s) (.int _)⟩
theorem cd_max {ns : List Int} {ds : List D} {m : Int} (e : ds = ns.map PyData.int) (h1 : m ∈ ns) (h2 : ∀ y ∈ ns, y ≤ m) : CD K (rMax K) [.list ds] (.int m) := fun H Hm xs s hx Q q => by
  subst e
  obtain ⟨v, rfl, h⟩ := dps1 hx
  obtain ⟨a, ys, rfl, hs, ha⟩ := dp_lst h
  have := dp_ints ha
  subst this
  refine ⟨a, ns, rfl, ex_l s hs, List.length_pos_of_mem h1, fun k hk hle => ?_⟩
  have e : k = m := Int.le_antisymm (h2 k hk) (hle m h1)
  subst e
  exact q _ H Hm (Gr.refl s) (.int _)
theorem cd_min {ns : List Int} {ds : List D} {m : Int} (e : ds = ns.map PyData.int) (h1 : m ∈ ns) (h2 : ∀ y ∈ ns, m ≤ y) : CD K (rMin K) [.list ds] (.int m) := fun H Hm xs s hx Q q => by
  subst e
  obtain ⟨v, rfl, h⟩ := dps1 hx
  obtain ⟨a, ys, rfl, hs, ha⟩ := dp_lst h
  have := dp_ints ha
  subst this
  refine ⟨a, ns, rfl, ex_l s hs, List.length_pos_of_mem h1, fun k hk hle => ?_⟩
  have e : k = m := Int.le_antisymm (hle m h1) (h2 k hk)
  subst e
  exact q _ H Hm (Gr.refl s) (.int _)
abbrev rMax2' : List V → Hp → VK → Prop := fun xs H Q => ∃ i j, xs = [.int i, .int j] ∧ Q (.int (if j > i then j else i)) H
abbrev rMin2' : List V → Hp → VK → Prop := fun xs H Q => ∃ i j, xs = [.int i, .int j] ∧ Q (.int (if j < i then j else i)) H
theorem cd_max2 {i j : Int} : CD K rMax2' [.int i, .int j] (.int (max i j)) := fun H Hm xs s hx Q q => by
  have := dp_ints (ns := [i, j]) hx
  subst this
  refine ⟨i, j, rfl, ?_⟩
  have e : (if j > i then j else i) = max i j := by split <;> omega
  rw [e]
  exact q _ H Hm (Gr.refl s) (.int _)
theorem cd_min2 {i j : Int} : CD K rMin2' [.int i, .int j] (.int (min i j)) := fun H Hm xs s hx Q q => by
  have := dp_ints (ns := [i, j]) hx
  subst this
  refine ⟨i, j, rfl, ?_⟩
  have e : (if j < i then j else i) = min i j := by split <;> omega
  rw [e]
  exact q _ H Hm (Gr.refl s) (.int _)
abbrev rAbs : List V → Hp → VK → Prop := fun xs H Q => ∃ i, xs = [.int i] ∧ Q (.int (if i < 0 then -i else i)) H
theorem cd_abs {i : Int} : CD K rAbs [.int i] (.int (if i < 0 then -i else i)) := fun H Hm xs s hx Q q => by
  have := dp_ints (ns := [i]) hx
  subst this
  exact ⟨i, rfl, q _ H Hm (Gr.refl s) (.int _)⟩
abbrev rInt1 : List V → Hp → VK → Prop := fun xs H Q => (∃ i, xs = [.int i] ∧ Q (.int i) H) ∨ ∃ k, xs = [.bl k] ∧ Q (.int (if k then 1 else 0)) H
theorem cd_intB {b : Bool} : CD K rInt1 [.bool b] (.int (if b then 1 else 0)) := fun H Hm xs s hx Q q => by
  have := dp_bools (bs := [b]) hx
  subst this
  exact .inr ⟨b, rfl, q _ H Hm (Gr.refl s) (.int _)⟩
abbrev rTupOf (K : PySem.W.Frag) : List V → Hp → VK → Prop := fun xs H Q => ∃ p ys, xs = [.ref p] ∧ ((SqL K H p ys ∧ ∀ l, H l = none → Q (.ref l) (upd H l (.tup ys))) ∨ (SqT K H p ys ∧ Q (.ref p) H))
theorem cd_tupL {ds : List D} : CD K (rTupOf K) [.list ds] (.tuple ds) := fun H Hm xs s hx Q q => by
  obtain ⟨v, rfl, h⟩ := dps1 hx
  obtain ⟨a, ys, rfl, hs, ha⟩ := dp_lst h
  exact ⟨a, ys, rfl, .inl ⟨ex_l s hs, fun p hp => q _ _ _ (Gr.new s hp) (.tup (.inl (.inl upd_same)) (ha.mono (Ex.new (fresh_back s hp))))⟩⟩
theorem cd_tupT {ds : List D} : CD K (rTupOf K) [.tuple ds] (.tuple ds) := fun H Hm xs s hx Q q => by
  obtain ⟨v, rfl, h⟩ := dps1 hx
  obtain ⟨a, ys, rfl, hs, ha⟩ := dp_tup h
  exact ⟨a, ys, rfl, .inr ⟨ex_t s hs, q _ H Hm (Gr.refl s) (.tup hs ha)⟩⟩
abbrev rLstOf (K : PySem.W.Frag) : List V → Hp → VK → Prop := fun xs H Q => ∃ p ys, xs = [.ref p] ∧ (SqL K H p ys ∨ SqT K H p ys) ∧ ∀ l, H l = none → Q (.ref l) (upd H l (.lst ys))
theorem cl_lstT {ds : List D} : CL K (rLstOf K) [.tuple ds] ds := fun H Hm xs s hx Q q => by
  obtain ⟨v, rfl, h⟩ := dps1 hx
  obtain ⟨a, ys, rfl, hs, ha⟩ := dp_tup h
  exact ⟨a, ys, rfl, .inr (ex_t s hs), fun p hp => q p ys _ Hm (Gr.priv s hp) hp (fresh_back s hp) upd_same ha⟩
theorem cl_lstL {ds : List D} : CL K (rLstOf K) [.list ds] ds := fun H Hm xs s hx Q q => by
  obtain ⟨v, rfl, h⟩ := dps1 hx
  obtain ⟨a, ys, rfl, hs, ha⟩ := dp_lst h
  exact ⟨a, ys, rfl, .inl (ex_l s hs), fun p hp => q p ys _ Hm (Gr.priv s hp) hp (fresh_back s hp) upd_same ha⟩
/-- xs + ys, xs * k of lists -/
theorem Gr.newL {H Hm : Hp} {p : Addr} {vs : List V} (s : Ex Hm H) (hp : H p = none) : Gr H Hm (upd H p (.lst vs)) Hm := Gr.priv s hp
def RL (K : PySem.W.Frag) (r : R2) (a b : D) (cs : List D) : Prop := ∀ H Hm x y, Ex Hm H → Dp K Hm x a → Dp K Hm y b → ∀ Q : VK,
  (∀ p vs H2 Hm2, Gr H Hm H2 Hm2 → H p = none → Hm2 p = none → H2 p = some (.lst vs) → DpAll K Hm2 vs cs → Q (.ref p) H2) → r x y H Q
theorem el_op {r : R2} {ta tb : TE} {ρ : Rho} {a b : D} {cs : List D} (ha : ED K ta ρ a) (hb : ED K tb ρ b) (hr : RL K r a b cs) : EL K (tOp r ta tb) ρ cs := fun σ H Hm s l hs Q q =>
  ha σ H Hm s l hs _ fun x H1 Hm1 g1 h1 => hb σ H1 Hm1 g1.sub l (hs.mono g1.em) _ fun y H2 Hm2 g2 h2 =>
    hr H2 Hm2 x y g2.sub (h1.mono g2.em) h2 Q fun p vs H3 Hm3 g3 hp hm h3 hd => q p vs H3 Hm3 ((g1.trans g2).trans g3) (fresh_back (g1.ex.trans g2.ex) hp) hm h3 hd

/-! ### isinstance with a built-in class -/
def tyD : D → String
  | .none => "NoneType"
  | .bool _ => "bool"
  | .int _ => "int"
  | .str _ => "str"
  | .list _ => "list"
  | .tuple _ => "tuple"
  | .dict _ => "dict"
theorem tyx_of {H : Hp} {v : V} : ∀ {d : D}, Dp K H v d → TyX K H v (.type (tyD d))
  | .none, h => by cases h; exact .base .non
  | .bool b, h => by cases h; exact .base (.bl b)
  | .int i, h => by cases h; exact .base (.int i)
  | .str x, h => by cases h; exact .base (.str x)
  | .list ds, h => by
    cases h with
    | lst hs _ =>
      rcases hs with (h | ⟨o, h⟩) | ⟨o, its, n, h1, h2, _⟩
      · exact .base (.lst h)
      · exact .base (.frz h)
      · exact .kList h1 h2
  | .tuple ds, h => by
    cases h with
    | tup hs _ =>
      rcases hs with (h | ⟨o, h⟩) | ⟨o, its, n, h1, h2, _⟩
      · exact .base (.tup h)
      · exact .fTuple h
      · exact .kTuple h1 h2
  | .dict _, h => by cases h
def isTy (d : D) (T : String) : Bool := (kitB (tyD d) T).getD false
theorem ed_isi {ρ : Rho} {te : TE} {d : D} {T : String} {b : Bool} (h : ED K te ρ d) (hb : kitB (tyD d) T = some b) : ED K (tCB (rIsi K) (tCons te (tCons (tC (.ty T)) tNil))) ρ (.bool b) := fun σ H Hm s l hs Q q =>
  h σ H Hm s l hs _ fun v H1 Hm1 g1 h1 => ⟨v, .ty T, .type (tyD d), .type T, b, rfl, .ty T, tyx_of (h1.mono g1.sub), kit_ty hb, q _ H1 Hm1 g1 (.bl b)⟩
theorem kb_tuple : ∀ d : D, kitB (tyD d) "tuple" = some (match d with | .tuple _ => true | _ => false)
  | .none => (by decide +kernel : kitB "NoneType" "tuple" = some false)
  | .bool _ => (by decide +kernel : kitB "bool" "tuple" = some false)
  | .int _ => (by decide +kernel : kitB "int" "tuple" = some false)
  | .str _ => (by decide +kernel : kitB "str" "tuple" = some false)
  | .list _ => (by decide +kernel : kitB "list" "tuple" = some false)
  | .tuple _ => (by decide +kernel : kitB "tuple" "tuple" = some true)
  | .dict _ => (by decide +kernel : kitB "dict" "tuple" = some false)
theorem kb_int : ∀ d : D, kitB (tyD d) "int" = some (match d with | .bool _ => true | .int _ => true | _ => false)
  | .none => (by decide +kernel : kitB "NoneType" "int" = some false)
  | .bool _ => (by decide +kernel : kitB "bool" "int" = some true)
  | .int _ => (by decide +kernel : kitB "int" "int" = some true)
  | .str _ => (by decide +kernel : kitB "str" "int" = some false)
  | .list _ => (by decide +kernel : kitB "list" "int" = some false)
  | .tuple _ => (by decide +kernel : kitB "tuple" "int" = some false)
  | .dict _ => (by decide +kernel : kitB "dict" "int" = some false)
theorem kb_bool : ∀ d : D, kitB (tyD d) "bool" = some (match d with | .bool _ => true | _ => false)
  | .none => (by decide +kernel : kitB "NoneType" "bool" = some false)
  | .bool _ => (by decide +kernel : kitB "bool" "bool" = some true)
  | .int _ => (by decide +kernel : kitB "int" "bool" = some false)
  | .str _ => (by decide +kernel : kitB "str" "bool" = some false)
  | .list _ => (by decide +kernel : kitB "list" "bool" = some false)
  | .tuple _ => (by decide +kernel : kitB "tuple" "bool" = some false)
  | .dict _ => (by decide +kernel : kitB "dict" "bool" = some false)
theorem kb_str : ∀ d : D, kitB (tyD d) "str" = some (match d with | .str _ => true | _ => false)
  | .none => (by decide +kernel : kitB "NoneType" "str" = some false)
  | .bool _ => (by decide +kernel : kitB "bool" "str" = some false)
  | .int _ => (by decide +kernel : kitB "int" "str" = some false)
  | .str _ => (by decide +kernel : kitB "str" "str" = some true)
  | .list _ => (by decide +kernel : kitB "list" "str" = some false)
  | .tuple _ => (by decide +kernel : kitB "tuple" "str" = some false)
  | .dict _ => (by decide +kernel : kitB "dict" "str" = some false)
end

/-! ### slices -/
section
variable {K : PySem.W.Frag} {ρ : Rho} {te : TE} {tl th : TO} {lo hi : Option Int} {ds : List D}
def cut {α : Type} (xs : List α) (lo hi : Option Int) : List α := (xs.drop (HT.sIx xs.length 0 lo)).take (HT.sIx xs.length xs.length hi - HT.sIx xs.length 0 lo)
theorem cut_dp {H : Hp} {vs : List V} (h : DpAll K H vs ds) : DpAll K H (cutV vs lo hi) (cut ds lo hi) := by
  unfold cutV cut
  rw [h.len]
  exact (h.drop _).take _
theorem ed_slT (h : ED K te ρ (.tuple ds)) (h1 : EO K tl ρ lo) (h2 : EO K th ρ hi) : ED K (tSl (rSlA K) te tl th) ρ (.tuple (cut ds lo hi)) := fun σ H Hm s l hs Q q =>
  h σ H Hm s l hs _ fun v H1 Hm1 g1 d1 => h1 σ H1 Hm1 g1.sub l (hs.mono g1.em) _ fun H2 Hm2 g2 => h2 σ H2 Hm2 g2.sub l (hs.mono (g1.em.trans g2.em)) _ fun H3 Hm3 g3 => by
    obtain ⟨a, xs, rfl, hx, ha⟩ := dp_tup d1
    have g23 := g2.trans g3
    refine ⟨a, xs, rfl, ex_t g3.sub (ex_t g23.em hx), fun e => ?_, fun _ p hp => ?_⟩
    · have e' : cut ds lo hi = ds := by
        unfold cut
        rw [← ha.len]
        rw [e.1, e.2, ha.len, List.drop_zero, Nat.sub_zero, List.take_length]
      rw [e'] at q
      exact q _ H3 Hm3 (g1.trans g23) (.tup (ex_t g23.em hx) (ha.mono g23.em))
    · exact q _ _ _ ((g1.trans g23).trans (Gr.new g3.sub hp)) (.tup (.inl (.inl upd_same)) (((cut_dp ha).mono g23.em).mono (Ex.new (fresh_back g3.sub hp))))
theorem el_slL (h : ED K te ρ (.list ds)) (h1 : EO K tl ρ lo) (h2 : EO K th ρ hi) : EL K (tSl (rSlL K) te tl th) ρ (cut ds lo hi) := fun σ H Hm s l hs Q q =>
  h σ H Hm s l hs _ fun v H1 Hm1 g1 d1 => h1 σ H1 Hm1 g1.sub l (hs.mono g1.em) _ fun H2 Hm2 g2 => h2 σ H2 Hm2 g2.sub l (hs.mono (g1.em.trans g2.em)) _ fun H3 Hm3 g3 => by
    obtain ⟨a, xs, rfl, hx, ha⟩ := dp_lst d1
    have g23 := g2.trans g3
    exact ⟨a, xs, rfl, ex_l g3.sub (ex_l g23.em hx), fun p hp => q p _ _ Hm3 ((g1.trans g23).trans (Gr.priv g3.sub hp)) (fresh_back (g1.ex.trans g23.ex) hp) (fresh_back g3.sub hp) upd_same ((cut_dp ha).mono g23.em)⟩
end

/-! ### statements -/
/-- the def's own list: its slot, what it holds -/
abbrev Om := Option (Nat × List D)
def OwnOk (K : PySem.W.Frag) (H0 H Hm : Hp) (σ : L2.St) : Om → Prop
  | none => True
  | some (i, ds) => ∃ a vs, σ[i]? = some (some (.ref a)) ∧ H0 a = none ∧ Hm a = none ∧ H a = some (.lst vs) ∧ DpAll K Hm vs ds
structure Stt (K : PySem.W.Frag) (H0 Hm0 H Hm : Hp) (σ : L2.St) (ρ : Rho) (ω : Om) : Prop where
  gr : Gr H0 Hm0 H Hm
  len : ρ.length ≤ σ.length
  sd : Sd K Hm σ ρ
  own : OwnOk K H0 H Hm σ ω
inductive Out where
  | nx (ρ : Rho) (ω : Om)
  | rt (d : D)
  | bk (ρ : Rho) (ω : Om)
def Fn (K : PySem.W.Frag) (H0 Hm0 Hb : Hp) (E : Ends) : Out → Prop
  | .nx ρ ω => ∀ σ H Hm, Ex Hb Hm → Stt K H0 Hm0 H Hm σ ρ ω → E.nx σ H
  | .rt d => ∀ v H Hm, Gr H0 Hm0 H Hm → Dp K Hm v d → E.rt v H
  | .bk ρ ω => ∀ σ H Hm, Ex Hb Hm → Stt K H0 Hm0 H Hm σ ρ ω → E.bk σ H
def XD (K : PySem.W.Frag) (ts : TS) (ρ : Rho) (ω : Om) (o : Out) : Prop := ∀ H0 Hm0 E σ H Hm, Stt K H0 Hm0 H Hm σ ρ ω → Fn K H0 Hm0 Hm E o → ts E σ H
/-- with the own list to be read -/
def vw (ρ : Rho) : Om → Rho
  | none => ρ
  | some (i, ds) => ρ.set i (some (.list ds))
section
variable {K : PySem.W.Frag} {ρ ρ' : Rho} {ω ω' : Om} {o : Out} {t u w : TS} {te : TE} {tt : TT} {d : D} {ds : List D} {i j : Nat}
theorem Fn.mono {H0 Hm0 Hb Hb' : Hp} {E : Ends} {o : Out} (h : Fn K H0 Hm0 Hb E o) (e : Ex Hb Hb') : Fn K H0 Hm0 Hb' E o := by
  cases o with
  | nx ρ ω => exact fun σ H Hm x s => h σ H Hm (e.trans x) s
  | rt d => exact h
  | bk ρ ω => exact fun σ H Hm x s => h σ H Hm (e.trans x) s
theorem xd_out {o' : Out} (h : XD K t ρ ω o) (e : o = o') : XD K t ρ ω o' := e ▸ h
theorem xd_seq (h : XD K t ρ ω (.nx ρ' ω')) (k : XD K u ρ' ω' o) : XD K (tSeq t u) ρ ω o := fun H0 Hm0 E σ H Hm S f =>
  h H0 Hm0 _ σ H Hm S fun σ' H' Hm' x S' => k H0 Hm0 E σ' H' Hm' S' (f.mono x)
theorem xd_seq_rt (h : XD K t ρ ω (.rt d)) : XD K (tSeq t u) ρ ω (.rt d) := fun H0 Hm0 E σ H Hm S f => h H0 Hm0 _ σ H Hm S f
theorem xd_seq_bk (h : XD K t ρ ω (.bk ρ' ω')) : XD K (tSeq t u) ρ ω (.bk ρ' ω') := fun H0 Hm0 E σ H Hm S f => h H0 Hm0 _ σ H Hm S f
theorem xd_next : XD K tNext ρ ω (.nx ρ ω) := fun H0 Hm0 E σ H Hm S f => f σ H Hm (Ex.refl _) S
theorem xd_break : XD K tBreak ρ ω (.bk ρ ω) := fun H0 Hm0 E σ H Hm S f => f σ H Hm (Ex.refl _) S
/-- slots forgotten -/
theorem Stt.less {H0 Hm0 H Hm : Hp} {σ : L2.St} (S : Stt K H0 Hm0 H Hm σ ρ ω) (hl : ρ'.length = ρ.length) (hw : ∀ (i : Nat) (d : D), ρ'[i]? = some (some d) → ρ[i]? = some (some d)) : Stt K H0 Hm0 H Hm σ ρ' ω :=
  ⟨S.gr, by rw [hl]; exact S.len, S.sd.less hw, S.own⟩
theorem OwnOk.grow {H0 H Hm H2 Hm2 : Hp} {σ : L2.St} (h : OwnOk K H0 H Hm σ ω) (g : Gr H Hm H2 Hm2) : OwnOk K H0 H2 Hm2 σ ω := by
  cases ω with
  | none => trivial
  | some q =>
    obtain ⟨a, vs, h1, h2, h3, h4, h5⟩ := h
    exact ⟨a, vs, h1, h2, g.own _ _ h4 h3, g.ex _ _ h4, h5.mono g.em⟩
theorem Stt.grow {H0 Hm0 H Hm H2 Hm2 : Hp} {σ : L2.St} (S : Stt K H0 Hm0 H Hm σ ρ ω) (g : Gr H Hm H2 Hm2) : Stt K H0 Hm0 H2 Hm2 σ ρ ω :=
  ⟨S.gr.trans g, S.len, S.sd.mono g.em, S.own.grow g⟩
/-- what is seen with the own list shown -/
theorem Stt.view {H0 Hm0 H Hm : Hp} {σ : L2.St} (S : Stt K H0 Hm0 H Hm σ ρ ω) : ∃ Hv, Ex Hv H ∧ Ex Hm Hv ∧ Sd K Hv σ (vw ρ ω) ∧ (vw ρ ω).length ≤ σ.length ∧ Gr H0 Hm0 H Hv ∧
    match ω with
    | none => Hv = Hm
    | some (i, ds) => ∃ a vs, σ[i]? = some (some (.ref a)) ∧ H0 a = none ∧ Hm a = none ∧ H a = some (.lst vs) ∧ DpAll K Hm vs ds ∧ Hv = upd Hm a (.lst vs) := by
  cases ω with
  | none => exact ⟨Hm, S.gr.sub, Ex.refl _, S.sd, S.len, S.gr, rfl⟩
  | some q =>
    obtain ⟨i, ds⟩ := q
    obtain ⟨a, vs, h1, h2, h3, h4, h5⟩ := S.own
    have em : Ex Hm (upd Hm a (.lst vs)) := Ex.new h3
    have sub : Ex (upd Hm a (.lst vs)) H := fun b o e => by
      by_cases z : b = a
      · subst z; rw [upd_same] at e; cases e; exact h4
      · rw [upd_ne z] at e; exact S.gr.sub b o e
    refine ⟨upd Hm a (.lst vs), sub, em, fun k e hk => ?_, by show (ρ.set i _).length ≤ _; rw [List.length_set]; exact S.len, ⟨S.gr.ex, S.gr.em.trans em, sub, fun b o e n => ?_⟩, a, vs, h1, h2, h3, h4, h5, rfl⟩
    · rcases set_get hk with ⟨rfl, e1, _⟩ | ⟨_, h⟩
      · cases e1
        exact ⟨_, h1, .lst (.inl (.inl upd_same)) (h5.mono em)⟩
      · obtain ⟨v, q1, q2⟩ := S.sd k e h
        exact ⟨v, q1, q2.mono em⟩
    · rw [upd_ne (ne_of_none e h2)]
      exact S.gr.own b o e n
/-- behind an expression that was read with the own list shown: hidden again -/
theorem Stt.hide {H0 Hm0 H Hm Hv H2 Hv2 : Hp} {σ : L2.St} (S : Stt K H0 Hm0 H Hm σ ρ ω) (hv : Ex Hm Hv) (hz : match ω with
    | none => Hv = Hm
    | some (i, ds) => ∃ a vs, σ[i]? = some (some (.ref a)) ∧ H0 a = none ∧ Hm a = none ∧ H a = some (.lst vs) ∧ DpAll K Hm vs ds ∧ Hv = upd Hm a (.lst vs)) (g : Gr H Hv H2 Hv2) :
    ∃ Hm2, Ex Hm Hm2 ∧ Stt K H0 Hm0 H2 Hm2 σ ρ ω ∧ ∀ v d, (ω = none ∨ imm d = true) → Dp K Hv2 v d → Dp K Hm2 v d := by
  cases ω with
  | none =>
    have hz : Hv = Hm := hz
    subst hz
    exact ⟨Hv2, g.em, S.grow g, fun _ _ _ h => h⟩
  | some q =>
    obtain ⟨i, ds⟩ := q
    obtain ⟨a, vs, h1, h2, h3, h4, h5, e⟩ := hz
    subst e
    have e2 : Hv2 a = some (.lst vs) := g.em _ _ upd_same
    have em : Ex Hm (era Hv2 a) := fun b o e => by
      have hne : b ≠ a := fun z => by subst z; rw [h3] at e; cases e
      rw [era_ne hne]
      exact g.em b o (by rw [upd_ne hne]; exact e)
    refine ⟨era Hv2 a, em, ⟨⟨S.gr.ex.trans g.ex, S.gr.em.trans em, era_ex.trans g.sub, fun b o e n => ?_⟩, S.len, S.sd.mono em, a, vs, h1, h2, era_same, g.ex _ _ h4, h5.mono em⟩, fun v d hd h => ?_⟩
    · by_cases z : b = a
      · subst z; exact era_same
      · rw [era_ne z]
        refine g.own b o (S.gr.ex b o e) ?_
        rw [upd_ne z]
        exact S.gr.own b o e n
    · rcases hd with hd | hd
      · cases hd
      · exact dp_era e2 d v hd h
theorem xd_asg (h : ED K te (vw ρ ω) d) (hd : ω = none ∨ imm d = true := by first | exact .inl rfl | exact .inr (by rfl) | exact .inr (by assumption)) (hi : ∀ q, ω = some q → q.1 ≠ i := by first | (intro _ h; cases h; done) | (intro _ h; cases h; decide)) : XD K (tAsg te (gName i)) ρ ω (.nx (ρ.set i (some d)) ω) := fun H0 Hm0 E σ H Hm S f => by
  obtain ⟨Hv, s1, s2, s3, s4, s5, s6⟩ := S.view
  refine h σ H Hv s1 s4 s3 _ fun v H2 Hv2 g hv => ?_
  obtain ⟨Hm2, em, S2, back⟩ := S.hide s2 s6 g
  refine f _ H2 Hm2 em ⟨S2.gr, by rw [List.length_set, List.length_set]; exact S.len, S2.sd.set S.len i (back v d hd hv), ?_⟩
  cases ω with
  | none => trivial
  | some q =>
    obtain ⟨a, vs, h1, h2⟩ := S2.own
    exact ⟨a, vs, by rw [List.getElem?_set_ne (Ne.symm (hi _ rfl))]; exact h1, h2⟩
/-- x = a new list, that the def changes itself -/
theorem xd_asgOwn (h : EL K te ρ ds) (hi : i < ρ.length := by first | decide | simp) : XD K (tAsg te (gName i)) ρ none (.nx (ρ.set i none) (some (i, ds))) := fun H0 Hm0 E σ H Hm S f => by
  have hi : i < σ.length := Nat.lt_of_lt_of_le hi S.len
  · refine h σ H Hm S.gr.sub S.len S.sd _ fun p vs H2 Hm2 g hp hm h2 hd => ?_
    exact f _ H2 Hm2 g.em ⟨S.gr.trans g, by rw [List.length_set, List.length_set]; exact S.len, (S.sd.mono g.em).drop i _, p, vs, List.getElem?_set_self hi, fresh_back S.gr.ex hp, hm, h2, hd⟩
end
end LM

set_option Elab.async false
set_option linter.all false
set_option maxRecDepth 100000
/-! Lm3: statements (more), loops, defs, by data. -/
namespace LM
open PySem PySem.Spec PyProof.Rows L2 Evl
section
variable {K : PySem.W.Frag} {ρ ρ' : Rho} {ω ω' : Om} {o : Out} {t u w : TS} {te : TE} {ta : TA} {tt : TT} {d : D} {ds es : List D} {i j : Nat}
theorem xd_ret (h : ED K te (vw ρ ω) d) : XD K (tRet te) ρ ω (.rt d) := fun H0 Hm0 E σ H Hm S f => by
  obtain ⟨Hv, s1, s2, s3, s4, s5, s6⟩ := S.view
  exact h σ H Hv s1 s4 s3 _ fun v H2 Hv2 g hv => f v H2 Hv2 (s5.trans g) hv
theorem xd_retL (h : EL K te (vw ρ ω) ds) : XD K (tRet te) ρ ω (.rt (.list ds)) := xd_ret (ed_el h)
theorem xd_if {b : Bool} (h : ET K tt (vw ρ ω) b) (h1 : b = true → XD K t ρ ω o) (h2 : b = false → XD K u ρ ω o) : XD K (tIfS tt t u) ρ ω o := fun H0 Hm0 E σ H Hm S f => by
  obtain ⟨Hv, s1, s2, s3, s4, s5, s6⟩ := S.view
  refine h σ H Hv s1 s4 s3 _ fun H2 Hv2 g => ?_
  obtain ⟨Hm2, em, S2, back⟩ := S.hide s2 s6 g
  cases b with
  | true => exact h1 rfl H0 Hm0 E σ H2 Hm2 S2 (f.mono em)
  | false => exact h2 rfl H0 Hm0 E σ H2 Hm2 S2 (f.mono em)
theorem xd_ifT (h : ET K tt (vw ρ ω) true) (h1 : XD K t ρ ω o) : XD K (tIfS tt t u) ρ ω o := xd_if h (fun _ => h1) (fun z => nomatch z)
theorem xd_ifF (h : ET K tt (vw ρ ω) false) (h1 : XD K u ρ ω o) : XD K (tIfS tt t u) ρ ω o := xd_if h (fun z => nomatch z) (fun _ => h1)
/-- the own list behind a change -/
theorem Stt.put {H0 Hm0 H Hm : Hp} {σ : L2.St} {vs : List V} {a : Addr} (S : Stt K H0 Hm0 H Hm σ ρ (some (i, ds))) (h1 : σ[i]? = some (some (.ref a))) (h2 : H0 a = none) (h3 : Hm a = none) (hd : DpAll K Hm vs es) :
    Stt K H0 Hm0 (upd H a (.lst vs)) Hm σ ρ (some (i, es)) := by
  refine ⟨⟨Ex.mut S.gr.ex h2, S.gr.em, fun b o e => ?_, S.gr.own⟩, S.len, S.sd, a, vs, h1, h2, h3, upd_same, hd⟩
  have hne : b ≠ a := fun z => by subst z; rw [h3] at e; cases e
  rw [upd_ne hne]; exact S.gr.sub b o e
/-- xs.append(e) -/
theorem xd_app (h : ED K te (ρ.set i (some (.list ds))) d) (hd : imm d = true := by first | rfl | assumption) (hz : ds.length ≤ 90000 := by first | assumption | decide | omega) :
    XD K (tDrop (tBM K "list" rAppend (tVar i) (tCons te tNil))) ρ (some (i, ds)) (.nx ρ (some (i, ds ++ [d]))) := fun H0 Hm0 E σ H Hm S f => by
  obtain ⟨Hv, s1, s2, s3, s4, s5, s6⟩ := S.view
  obtain ⟨a, vs, h1, h2, h3, h4, h5, e⟩ := id s6
  refine ⟨.ref a, h1, .inl ⟨rfl, vs, .inl (.inl h4)⟩, ?_⟩
  refine h σ H Hv s1 s4 s3 _ fun v H2 Hv2 g hv => ?_
  obtain ⟨Hm2, em, S2, back⟩ := S.hide s2 s6 g
  obtain ⟨a', vs', k1, k2, k3, k4, k5⟩ := S2.own
  rw [h1] at k1
  cases k1
  rw [g.ex _ _ h4] at k4
  cases k4
  refine ⟨a, vs, v, rfl, rfl, g.ex _ _ h4, sz_lt (by rw [h5.len]; omega), ?_⟩
  exact f _ _ Hm2 em (S2.put h1 k2 k3 (k5.snoc (back v d (.inr hd) hv)))
/-- .. of a new list -/
theorem xd_appL {cs : List D} (h : EL K te ρ cs) (hi : ∀ d : D, ρ[i]? ≠ some (some d)) (hz : ds.length ≤ 90000 := by first | assumption | decide | omega) :
    XD K (tDrop (tBM K "list" rAppend (tVar i) (tCons te tNil))) ρ (some (i, ds)) (.nx ρ (some (i, ds ++ [.list cs]))) := fun H0 Hm0 E σ H Hm S f => by
  obtain ⟨a, vs, h1, h2, h3, h4, h5⟩ := S.own
  refine ⟨.ref a, h1, .inl ⟨rfl, vs, .inl (.inl h4)⟩, ?_⟩
  refine h σ H Hm S.gr.sub S.len S.sd _ fun p ws H2 Hm2 g hp hm e2 hd => ?_
  have g2 := g.show hp hm e2
  have S2 := S.grow g2
  obtain ⟨a', vs', k1, k2, k3, k4, k5⟩ := S2.own
  rw [h1] at k1
  cases k1
  rw [g.ex _ _ h4] at k4
  cases k4
  refine ⟨a, vs, .ref p, rfl, rfl, g.ex _ _ h4, sz_lt (by rw [h5.len]; omega), ?_⟩
  exact f _ _ _ g2.em (S2.put h1 k2 k3 (k5.snoc (.lst (.inl (.inl upd_same)) (hd.mono (Ex.new hm)))))
/-- .. of data that may hold lists, told without the own list -/
theorem xd_appD (h : ED K te ρ d) (hz : ds.length ≤ 90000 := by first | assumption | decide | omega) :
    XD K (tDrop (tBM K "list" rAppend (tVar i) (tCons te tNil))) ρ (some (i, ds)) (.nx ρ (some (i, ds ++ [d]))) := fun H0 Hm0 E σ H Hm S f => by
  obtain ⟨a, vs, h1, h2, h3, h4, h5⟩ := S.own
  refine ⟨.ref a, h1, .inl ⟨rfl, vs, .inl (.inl h4)⟩, ?_⟩
  refine h σ H Hm S.gr.sub S.len S.sd _ fun v H2 Hm2 g hv => ?_
  have S2 := S.grow g
  obtain ⟨a', vs', k1, k2, k3, k4, k5⟩ := S2.own
  rw [h1] at k1
  cases k1
  rw [g.ex _ _ h4] at k4
  cases k4
  refine ⟨a, vs, v, rfl, rfl, g.ex _ _ h4, sz_lt (by rw [h5.len]; omega), ?_⟩
  exact f _ _ _ g.em (S2.put h1 k2 k3 (k5.snoc hv))
/-- x = e with the own list not read: lists may stand in it -/
theorem xd_asgD (h : ED K te ρ d) (hi : ∀ q, ω = some q → q.1 ≠ i := by first | (intro _ h; cases h; done) | (intro _ h; cases h; decide)) : XD K (tAsg te (gName i)) ρ ω (.nx (ρ.set i (some d)) ω) := fun H0 Hm0 E σ H Hm S f => by
  refine h σ H Hm S.gr.sub S.len S.sd _ fun v H2 Hm2 g hv => ?_
  have S2 := S.grow g
  refine f _ H2 Hm2 g.em ⟨S2.gr, by rw [List.length_set, List.length_set]; exact S.len, S2.sd.set S.len i hv, ?_⟩
  cases ω with
  | none => trivial
  | some q =>
    obtain ⟨a, vs, h1, h2⟩ := S2.own
    exact ⟨a, vs, by rw [List.getElem?_set_ne (Ne.symm (hi _ rfl))]; exact h1, h2⟩
/-- the own list is let go: it is data from then on -/
theorem xd_free (hi : i < ρ.length) (k : XD K t (ρ.set i (some (.list ds))) none o) : XD K t ρ (some (i, ds)) o := fun H0 Hm0 E σ H Hm S f => by
  obtain ⟨Hv, s1, s2, s3, s4, s5, s6⟩ := S.view
  exact k H0 Hm0 E σ H Hv ⟨s5, s4, s3, trivial⟩ (f.mono s2)
/-- a, b = x, y -/
theorem xd_par {d' : D} (h : EDs K ta (vw ρ ω) [d, d']) (hd : ω = none ∨ (imm d = true ∧ imm d' = true) := by first | exact .inl rfl | exact .inr ⟨rfl, rfl⟩ | (right; constructor <;> assumption)) (hi : ∀ q, ω = some q → q.1 ≠ i ∧ q.1 ≠ j := by first | (intro _ h; cases h; done) | (intro _ h; cases h; decide)) :
    XD K (tPar i j ta) ρ ω (.nx ((ρ.set i (some d)).set j (some d')) ω) := fun H0 Hm0 E σ H Hm S f => by
  obtain ⟨Hv, s1, s2, s3, s4, s5, s6⟩ := S.view
  refine h σ H Hv s1 s4 s3 _ fun vs H2 Hv2 g hvs => ?_
  obtain ⟨v, v', rfl, hv, hv'⟩ := dps2 hvs
  obtain ⟨Hm2, em, S2, back⟩ := S.hide s2 s6 g
  have b1 := back v d (hd.imp id And.left) hv
  have b2 := back v' d' (hd.imp id And.right) hv'
  refine ⟨v, v', rfl, f _ H2 Hm2 em ⟨S2.gr, by simp only [List.length_set]; exact S.len, (S2.sd.set S.len i b1).set (by simp only [List.length_set]; exact S.len) j b2, ?_⟩⟩
  cases ω with
  | none => trivial
  | some q =>
    obtain ⟨a, vs, h1, h2⟩ := S2.own
    exact ⟨a, vs, by rw [List.getElem?_set_ne (Ne.symm (hi _ rfl).2), List.getElem?_set_ne (Ne.symm (hi _ rfl).1)]; exact h1, h2⟩
/-- a, b = e -/
theorem xd_unp {d' : D} (h : ED K te (vw ρ ω) (.tuple [d, d'])) (hd : ω = none ∨ (imm d = true ∧ imm d' = true) := by first | exact .inl rfl | exact .inr ⟨rfl, rfl⟩ | (right; constructor <;> assumption)) (hi : ∀ q, ω = some q → q.1 ≠ i ∧ q.1 ≠ j := by first | (intro _ h; cases h; done) | (intro _ h; cases h; decide)) :
    XD K (tAsg te (gTup K 2 (gCons (gName i) (gCons (gName j) gNil)))) ρ ω (.nx ((ρ.set i (some d)).set j (some d')) ω) := fun H0 Hm0 E σ H Hm S f => by
  obtain ⟨Hv, s1, s2, s3, s4, s5, s6⟩ := S.view
  refine h σ H Hv s1 s4 s3 _ fun vt H2 Hv2 g hvt => ?_
  obtain ⟨a, xs, rfl, hx, hvs⟩ := dp_tup hvt
  obtain ⟨v, v', rfl, hv, hv'⟩ := dps2 hvs
  obtain ⟨Hm2, em, S2, back⟩ := S.hide s2 s6 g
  have b1 := back v d (hd.imp id And.left) hv
  have b2 := back v' d' (hd.imp id And.right) hv'
  refine ⟨a, [v, v'], rfl, ex_t g.sub hx, rfl, v, [v'], rfl, v', [], rfl, rfl, f _ H2 Hm2 em ⟨S2.gr, by simp only [List.length_set]; exact S.len, (S2.sd.set S.len i b1).set (by simp only [List.length_set]; exact S.len) j b2, ?_⟩⟩
  cases ω with
  | none => trivial
  | some q =>
    obtain ⟨a, vs, h1, h2⟩ := S2.own
    exact ⟨a, vs, by rw [List.getElem?_set_ne (Ne.symm (hi _ rfl).2), List.getElem?_set_ne (Ne.symm (hi _ rfl).1)]; exact h1, h2⟩
/-- x += e, ints -/
theorem xd_aug {f : Int → Int → Int} {a b : Int} (hx : (vw ρ ω)[i]? = some (some (.int a))) (h : ED K te (vw ρ ω) (.int b)) (hi : ∀ q, ω = some q → q.1 ≠ i := by first | (intro _ h; cases h; done) | (intro _ h; cases h; decide)) : XD K (tAug i te (ipI f)) ρ ω (.nx (ρ.set i (some (.int (f a b)))) ω) := fun H0 Hm0 E σ H Hm S g0 => by
  obtain ⟨Hv, s1, s2, s3, s4, s5, s6⟩ := S.view
  obtain ⟨x, hx1, hx2⟩ := s3 i _ hx
  refine ⟨x, hx1, h σ H Hv s1 s4 s3 _ fun v H2 Hv2 g hv => ⟨a, b, dp_int hx2, dp_int hv, ?_⟩⟩
  obtain ⟨Hm2, em, S2, back⟩ := S.hide s2 s6 g
  refine g0 _ H2 Hm2 em ⟨S2.gr, by rw [List.length_set, List.length_set]; exact S.len, S2.sd.set S.len i (.int _), ?_⟩
  cases ω with
  | none => trivial
  | some q =>
    obtain ⟨a, vs, h1, h2⟩ := S2.own
    exact ⟨a, vs, by rw [List.getElem?_set_ne (Ne.symm (hi _ rfl))]; exact h1, h2⟩

/-! ### loops: the state at turn i is told by functions of i; m turns run through, then the items end, or turn m leaves -/
def Go (K : PySem.W.Frag) (tu : TS) (j : Nat) (items : List D) (ρs : Nat → Rho) (ωs : Nat → Om) (o : Out) : Prop :=
  ∃ m, m ≤ items.length ∧ (∀ i d, i < m → items[i]? = some d → XD K tu ((ρs i).set j (some d)) (ωs i) (.nx (ρs (i + 1)) (ωs (i + 1)))) ∧
    ((m = items.length ∧ o = .nx (ρs m) (ωs m)) ∨ ∃ d, items[m]? = some d ∧ ((∃ r, o = .rt r ∧ XD K tu ((ρs m).set j (some d)) (ωs m) (.rt r)) ∨ ∃ ρ' ω', o = .nx ρ' ω' ∧ XD K tu ((ρs m).set j (some d)) (ωs m) (.bk ρ' ω')))
theorem Go.all {tu : TS} {items : List D} {ρs : Nat → Rho} {ωs : Nat → Om} (h : ∀ i d, items[i]? = some d → XD K tu ((ρs i).set j (some d)) (ωs i) (.nx (ρs (i + 1)) (ωs (i + 1)))) : Go K tu j items ρs ωs (.nx (ρs items.length) (ωs items.length)) :=
  ⟨items.length, Nat.le_refl _, fun i d _ hd => h i d hd, .inl ⟨rfl, rfl⟩⟩
def GoI (K : PySem.W.Frag) (H0 Hm0 Hb : Hp) (ρs : Nat → Rho) (ωs : Nat → Om) (m i : Nat) (σ : L2.St) (H : Hp) : Prop := i ≤ m ∧ ∃ Hm, Ex Hb Hm ∧ Stt K H0 Hm0 H Hm σ (ρs i) (ωs i)
theorem Stt.setv {H0 Hm0 H Hm : Hp} {σ : L2.St} {v : V} (S : Stt K H0 Hm0 H Hm σ ρ ω) (hv : Dp K Hm v d) (hi : ∀ q, ω = some q → q.1 ≠ j) : Stt K H0 Hm0 H Hm (σ.set j (some v)) (ρ.set j (some d)) ω := by
  refine ⟨S.gr, by rw [List.length_set, List.length_set]; exact S.len, S.sd.set S.len j hv, ?_⟩
  cases ω with
  | none => trivial
  | some q =>
    obtain ⟨a, vs, h1, h2⟩ := S.own
    exact ⟨a, vs, by rw [List.getElem?_set_ne (Ne.symm (hi _ rfl))]; exact h1, h2⟩
/-- one turn, in the midst -/
theorem go_turn {tu : TS} {items : List D} {ρs : Nat → Rho} {ωs : Nat → Om} {H0 Hm0 Hb : Hp} {E : Ends} {σ : L2.St} {H : Hp} {v : V} {m : Nat} (hw : ∀ i q, ωs i = some q → q.1 ≠ j)
    (h1 : ∀ i d, i < m → items[i]? = some d → XD K tu ((ρs i).set j (some d)) (ωs i) (.nx (ρs (i + 1)) (ωs (i + 1))))
    (h2 : (m = items.length ∧ o = .nx (ρs m) (ωs m)) ∨ ∃ d, items[m]? = some d ∧ ((∃ r, o = .rt r ∧ XD K tu ((ρs m).set j (some d)) (ωs m) (.rt r)) ∨ ∃ ρ' ω', o = .nx ρ' ω' ∧ XD K tu ((ρs m).set j (some d)) (ωs m) (.bk ρ' ω')))
    (f : Fn K H0 Hm0 Hb E o) (hi : items[i]? = some d) (hv : Dp K Hb v d) (c : GoI K H0 Hm0 Hb ρs ωs m i σ H) :
    tu { E with nx := GoI K H0 Hm0 Hb ρs ωs m (i + 1), ct := GoI K H0 Hm0 Hb ρs ωs m (i + 1), bk := E.nx } (σ.set j (some v)) H := by
  obtain ⟨hm, Hm, em, S⟩ := c
  have S' := S.setv (hv.mono em) (hw i)
  by_cases hlt : i < m
  · exact h1 i d hlt hi H0 Hm0 _ _ H Hm S' fun σ' H' Hm' x S2 => ⟨hlt, Hm', em.trans x, S2⟩
  · have e : i = m := by omega
    subst e
    rcases h2 with ⟨z, _⟩ | ⟨d2, hd2, h3⟩
    · rw [List.getElem?_eq_none (by omega)] at hi; cases hi
    · rw [hi] at hd2
      cases hd2
      rcases h3 with ⟨r, rfl, hx⟩ | ⟨ρ', ω', rfl, hx⟩
      · exact hx H0 Hm0 _ _ H Hm S' f
      · exact hx H0 Hm0 _ _ H Hm S' fun σ' H' Hm' x S2 => f σ' H' Hm' (em.trans x) S2
theorem go_end {tu : TS} {items : List D} {ρs : Nat → Rho} {ωs : Nat → Om} {H0 Hm0 Hb : Hp} {E : Ends} {σ : L2.St} {H : Hp} {m : Nat} (hm : m ≤ items.length)
    (h2 : (m = items.length ∧ o = .nx (ρs m) (ωs m)) ∨ ∃ d, items[m]? = some d ∧ ((∃ r, o = .rt r ∧ XD K tu ((ρs m).set j (some d)) (ωs m) (.rt r)) ∨ ∃ ρ' ω', o = .nx ρ' ω' ∧ XD K tu ((ρs m).set j (some d)) (ωs m) (.bk ρ' ω')))
    (f : Fn K H0 Hm0 Hb E o) (c : GoI K H0 Hm0 Hb ρs ωs m items.length σ H) : E.nx σ H := by
  obtain ⟨hle, Hm, em, S⟩ := c
  rcases h2 with ⟨z, rfl⟩ | ⟨d2, hd2, _⟩
  · rw [← z] at S
    exact f σ H Hm em S
  · rw [List.getElem?_eq_none (by omega)] at hd2; cases hd2
theorem xd_forT {tl : TE} {tu : TS} {items : List D} (ρs : Nat → Rho) (ωs : Nat → Om) (hsrc : ED K tl (vw ρ ω) (.tuple items)) (hd : ω = none ∨ imms items = true := by first | exact .inl rfl | exact .inr (by rfl) | exact .inr (by assumption)) (h0 : ρs 0 = ρ) (h0' : ωs 0 = ω) (hw : ∀ i q, ωs i = some q → q.1 ≠ j) (g : Go K tu j items ρs ωs o) :
    XD K (tFor (iTup K tl) (gName j) tu) ρ ω o := fun H0 Hm0 E σ H Hm S f => by
  obtain ⟨m, hm, h1, h2⟩ := g
  obtain ⟨Hv, s1, s2, s3, s4, s5, s6⟩ := S.view
  refine hsrc σ H Hv s1 s4 s3 _ fun v H1 Hv1 g1 hv => ?_
  obtain ⟨Hm1, em, S1, back⟩ := S.hide s2 s6 g1
  have hv' := back v (.tuple items) (hd.imp id (fun h => h)) hv
  obtain ⟨a, xs, rfl, hx, ha⟩ := dp_tup hv'
  have hl := ha.len
  refine ⟨a, rfl, ⟨xs, ex_t S1.gr.sub hx⟩, ?_⟩
  refine for_tup (xs := xs) (GoI K H0 Hm0 Hm1 ρs ωs m) ⟨Nat.zero_le _, Hm1, Ex.refl _, by rw [h0, h0']; exact S1⟩ (fun i σ' H' _ c => ?_) (fun i x σ' H' hi c => ?_) (fun σ' H' c => ?_)
  · obtain ⟨_, Hm', x, S'⟩ := c
    exact ex_t S'.gr.sub (ex_t x hx)
  · obtain ⟨d, hd, hxd⟩ := ha.get' hi
    exact go_turn hw h1 h2 (f.mono em) hd hxd c
  · rw [hl] at c
    exact go_end hm h2 (f.mono em) c
theorem xd_forL {tl : TE} {tu : TS} {items : List D} (ρs : Nat → Rho) (ωs : Nat → Om) (hsrc : ED K tl ρ (.list items)) (h0 : ρs 0 = ρ) (h0' : ωs 0 = ω) (hw : ∀ i q, ωs i = some q → q.1 ≠ j) (g : Go K tu j items ρs ωs o) :
    XD K (tFor (iList K tl) (gName j) tu) ρ ω o := fun H0 Hm0 E σ H Hm S f => by
  obtain ⟨m, hm, h1, h2⟩ := g
  refine hsrc σ H Hm S.gr.sub S.len S.sd _ fun v H1 Hm1 g1 hv => ?_
  have S1 := S.grow g1
  have em := g1.em
  obtain ⟨a, xs, rfl, hx, ha⟩ := dp_lst hv
  have hl := ha.len
  refine ⟨a, rfl, ⟨xs, ex_l S1.gr.sub hx⟩, ?_⟩
  refine for_list (xs := xs) (GoI K H0 Hm0 Hm1 ρs ωs m) ⟨Nat.zero_le _, Hm1, Ex.refl _, by rw [h0, h0']; exact S1⟩ (fun i σ' H' _ c => ?_) (fun i x σ' H' hi c => ?_) (fun σ' H' c => ?_)
  · obtain ⟨_, Hm', x, S'⟩ := c
    exact ex_l S'.gr.sub (ex_l x hx)
  · obtain ⟨d, hd, hxd⟩ := ha.get' hi
    exact go_turn hw h1 h2 (f.mono em) hd hxd c
  · rw [hl] at c
    exact go_end hm h2 (f.mono em) c
theorem xd_forR1 {ta : TA} {tu : TS} {n : Int} (ρs : Nat → Rho) (ωs : Nat → Om) (hsrc : EDs K ta (vw ρ ω) [.int n]) (hn : n ≤ 1000000000) (hn0 : -1000000000 ≤ n) (h0 : ρs 0 = ρ) (h0' : ωs 0 = ω) (hw : ∀ i q, ωs i = some q → q.1 ≠ j) (g : Go K tu j (rngD 0 n.toNat) ρs ωs o) :
    XD K (tFor (iRng1 ta) (gName j) tu) ρ ω o := fun H0 Hm0 E σ H Hm S f => by
  obtain ⟨m, hm, h1, h2⟩ := g
  obtain ⟨Hv, s1, s2, s3, s4, s5, s6⟩ := S.view
  refine hsrc σ H Hv s1 s4 s3 _ fun vs H1 Hv1 g1 hv => ?_
  obtain ⟨Hm1, em, S1, back⟩ := S.hide s2 s6 g1
  have ev : vs = [.int n] := dp_ints (ns := [n]) hv
  subst ev
  have hl := rngD_len 0 n.toNat
  refine ⟨n, rfl, by omega, by omega, ?_⟩
  refine for_range (lo := 0) (n := n.toNat) (GoI K H0 Hm0 Hm1 ρs ωs m) ⟨Nat.zero_le _, Hm1, Ex.refl _, by rw [h0, h0']; exact S1⟩ (fun i σ' H' hi c => ?_) (fun σ' H' c => ?_)
  · exact go_turn hw h1 h2 (f.mono em) (rngD_get hi) (.int _) c
  · rw [← hl] at c
    exact go_end hm h2 (f.mono em) c
theorem xd_forR2 {ta : TA} {tu : TS} {lo n : Int} (ρs : Nat → Rho) (ωs : Nat → Om) (hsrc : EDs K ta (vw ρ ω) [.int lo, .int n]) (hn : -1000000000 ≤ lo ∧ lo ≤ 1000000000 ∧ -1000000000 ≤ n ∧ n ≤ 1000000000) (h0 : ρs 0 = ρ) (h0' : ωs 0 = ω) (hw : ∀ i q, ωs i = some q → q.1 ≠ j) (g : Go K tu j (rngD lo (n - lo).toNat) ρs ωs o) :
    XD K (tFor (iRng2 ta) (gName j) tu) ρ ω o := fun H0 Hm0 E σ H Hm S f => by
  obtain ⟨m, hm, h1, h2⟩ := g
  obtain ⟨Hv, s1, s2, s3, s4, s5, s6⟩ := S.view
  refine hsrc σ H Hv s1 s4 s3 _ fun vs H1 Hv1 g1 hv => ?_
  obtain ⟨Hm1, em, S1, back⟩ := S.hide s2 s6 g1
  have ev : vs = [.int lo, .int n] := dp_ints (ns := [lo, n]) hv
  subst ev
  have hl := rngD_len lo (n - lo).toNat
  refine ⟨lo, n, rfl, by omega, ?_⟩
  refine for_range (lo := lo) (n := (n - lo).toNat) (GoI K H0 Hm0 Hm1 ρs ωs m) ⟨Nat.zero_le _, Hm1, Ex.refl _, by rw [h0, h0']; exact S1⟩ (fun i σ' H' hi c => ?_) (fun σ' H' c => ?_)
  · exact go_turn hw h1 h2 (f.mono em) (rngD_get hi) (.int _) c
  · rw [← hl] at c
    exact go_end hm h2 (f.mono em) c
/-- while: m turns, then the test fails, or turn m leaves -/
theorem xd_while {tu : TS} (ρs : Nat → Rho) (ωs : Nat → Om) (m : Nat) (h0 : ρs 0 = ρ) (h0' : ωs 0 = ω)
    (h1 : ∀ i, i < m → ET K tt (vw (ρs i) (ωs i)) true ∧ XD K tu (ρs i) (ωs i) (.nx (ρs (i + 1)) (ωs (i + 1))))
    (h2 : (ET K tt (vw (ρs m) (ωs m)) false ∧ o = .nx (ρs m) (ωs m)) ∨ (ET K tt (vw (ρs m) (ωs m)) true ∧ ((∃ r, o = .rt r ∧ XD K tu (ρs m) (ωs m) (.rt r)) ∨ ∃ ρ' ω', o = .nx ρ' ω' ∧ XD K tu (ρs m) (ωs m) (.bk ρ' ω')))) :
    XD K (tWhile tt tu) ρ ω o := fun H0 Hm0 E σ H Hm S f => by
  refine ⟨fun k σ' H' => ∃ i, i + k = m ∧ ∃ Hm', Ex Hm Hm' ∧ Stt K H0 Hm0 H' Hm' σ' (ρs i) (ωs i), ⟨m, 0, by omega, Hm, Ex.refl _, by rw [h0, h0']; exact S⟩, ?_⟩
  rintro k σ1 H1 ⟨i, hik, Hm1, e1, S1⟩
  obtain ⟨Hv, s1, s2, s3, s4, s5, s6⟩ := S1.view
  by_cases hlt : i < m
  · obtain ⟨c1, c2⟩ := h1 i hlt
    refine c1 σ1 H1 Hv s1 s4 s3 _ fun H2 Hv2 g => ?_
    obtain ⟨Hm2, em, S2, back⟩ := S1.hide s2 s6 g
    simp only [if_true]
    refine ⟨_, fun σ' H' hN => hN, c2 H0 Hm0 { E with nx := fun σ' H' => ∃ m', m' < k ∧ ∃ i', i' + m' = m ∧ ∃ Hm', Ex Hm Hm' ∧ Stt K H0 Hm0 H' Hm' σ' (ρs i') (ωs i'), ct := fun σ' H' => ∃ m', m' < k ∧ ∃ i', i' + m' = m ∧ ∃ Hm', Ex Hm Hm' ∧ Stt K H0 Hm0 H' Hm' σ' (ρs i') (ωs i'), bk := E.nx } σ1 H2 Hm2 S2 fun σ' H' Hm' x S' => ⟨k - 1, by omega, i + 1, by omega, Hm', (e1.trans em).trans x, S'⟩⟩
  · have e : i = m := by omega
    subst e
    rcases h2 with ⟨c1, rfl⟩ | ⟨c1, c2⟩
    · refine c1 σ1 H1 Hv s1 s4 s3 _ fun H2 Hv2 g => ?_
      obtain ⟨Hm2, em, S2, back⟩ := S1.hide s2 s6 g
      simp only [Bool.false_eq_true, if_false]
      exact f σ1 H2 Hm2 (e1.trans em) S2
    · refine c1 σ1 H1 Hv s1 s4 s3 _ fun H2 Hv2 g => ?_
      obtain ⟨Hm2, em, S2, back⟩ := S1.hide s2 s6 g
      simp only [if_true]
      refine ⟨fun _ _ => False, fun _ _ z => z.elim, ?_⟩
      rcases c2 with ⟨r, rfl, hx⟩ | ⟨ρ', ω', rfl, hx⟩
      · exact hx H0 Hm0 { E with nx := fun _ _ => False, ct := fun _ _ => False, bk := E.nx } σ1 H2 Hm2 S2 f
      · exact hx H0 Hm0 { E with nx := fun _ _ => False, ct := fun _ _ => False, bk := E.nx } σ1 H2 Hm2 S2 fun σ' H' Hm' x S' => f σ' H' Hm' ((e1.trans em).trans x) S'
end

/-! ### defs -/
def startR (N : List Str) (ds : List D) : Rho := ds.map some ++ List.replicate (N.length - ds.length) none
theorem startR_len {N : List Str} {ds : List D} (h : ds.length ≤ N.length) : (startR N ds).length = N.length := by
  unfold startR
  rw [List.length_append, List.length_map, List.length_replicate]; omega
theorem start_sd {K : PySem.W.Frag} {Hm : Hp} {N : List Str} {vs : List V} {ds : List D} (h : DpAll K Hm vs ds) : Sd K Hm (L2.start N vs) (startR N ds) := fun i d hi => by
  unfold startR at hi
  unfold L2.start
  by_cases hl : i < ds.length
  · rw [List.getElem?_append_left (by rw [List.length_map]; exact hl), List.getElem?_map] at hi
    obtain ⟨d', h1, h2⟩ := Option.map_eq_some_iff.mp hi
    cases h2
    obtain ⟨v, h3, h4⟩ := h.get h1
    have : i < vs.length := by rw [h.len]; exact hl
    exact ⟨v, by rw [List.getElem?_append_left (by rw [List.length_map]; exact this), List.getElem?_map, h3]; rfl, h4⟩
  · rw [List.getElem?_append_right (by rw [List.length_map]; omega)] at hi
    have := List.mem_of_getElem? hi
    rw [List.mem_replicate] at this
    cases this.2
structure Has (P : Program) (w : World) (K : PySem.W.Frag) (mg : Str → Option Value) (base : Heap) (k : Nat) (x : Str) (sp : Sp) : Prop where
  ex : ∃ f fd ps, FnOk P w K mg base CX0 k f fd ps sp ∧ mg x = some (.ref f) ∧ PySem.W.keepIn K (.ref f) = true ∧ Binds K fd ps []
theorem Has.mono {P : Program} {w : World} {K : PySem.W.Frag} {mg : Str → Option Value} {base : Heap} {j k : Nat} {x : Str} {sp : Sp} (h : Has P w K mg base j x sp) (hk : j ≤ k) : Has P w K mg base k x sp :=
  let ⟨f, fd, ps, F, a, b, c⟩ := h.ex
  ⟨f, fd, ps, F.mono hk, a, b, c⟩
section
variable {X : Cx} {k j : Nat} {x : Str} {sp : Sp} {e : Expr} {es : List Expr} {p pos : Pos} {t : TA}
theorem pe_h (c : Has X.prog X.w X.K X.mg X.base k x sp) (hr : Room j X.A) (hk : k ≤ j) (hg : Gl X x) (ha : PA X (e :: es) t)
    (hd : (x == ("__debug__" : Str)) = false := by decide) (hs : starEach (e :: es) X.env = (false, eval e X.env) :: starEach es X.env := by rfl) (hpl : (backTo pos (starEach es X.env)).any (·.1) = false := by rfl) :
    PE X (.Call (.Name x p) (e :: es) [] pos) (tCall sp [] E0 t) := by
  obtain ⟨f, fd, ps, F, hm, kp, b⟩ := c.ex
  exact pe_call F (hr.mono hk) hg hm kp b .nil pass0 ha (hdb := hd) (he := hs) (hpl := hpl)
theorem pe_h0 (c : Has X.prog X.w X.K X.mg X.base k x sp) (hr : Room j X.A) (hk : k ≤ j) (hg : Gl X x)
    (hd : (x == ("__debug__" : Str)) = false := by decide) :
    PE X (.Call (.Name x p) [] [] pos) (tCall sp [] E0 tNil) := by
  obtain ⟨f, fd, ps, F, hm, kp, b⟩ := c.ex
  exact pe_call0 F (hr.mono hk) hg hm kp b .nil pass0 (hdb := hd)
end
/-- a def that hands back data of data -/
theorem has_of {P : Program} {w : World} {K : PySem.W.Frag} {mg : Str → Option Value} {base : Heap} {x : Str} {st : Stmt} {f : Addr} {fd : FuncData} {N ps : List Str} {k : Nat} {R : List D → D → Prop} (F : Fun K x x st f fd) (b : Binds K fd ps []) (hm : mg x = some (.ref f)) (S : FnScope N ps (defScope st)) (hN : ps.length ≤ N.length)
    (len : ∀ ds r, R ds r → ds.length = ps.length)
    (hbody : ∀ (cdv : Value) (A : Around) (outer : List Env) (s : Shared) (H : Hp) (E : XK), Room k (A.deeper (envOfC x (defScope st) s.heap.objs.size f cdv)) →
      ∃ t, PSs (cxOf CX0 P w K mg base N x (defScope st) f cdv A outer s H E).nox (defBody st) t ∧ ∀ ds r, R ds r → XD K t (startR N ds) none (.rt r)) : Has P w K mg base (k + 1) x (SpR K R) := by
  refine ⟨f, fd, ps, F.ok S (fun vs H Q E h => ?_) (fun cdv A outer s H vs Q E hr h => ?_), hm, F.kp, b⟩
  · obtain ⟨ds, r, Hm, _, hd, hR, _⟩ := h
    rw [hd.len, len ds r hR]
  · obtain ⟨t, h1, h2⟩ := hbody cdv A outer s H E hr
    refine ⟨t, h1, ?_⟩
    obtain ⟨ds, r, Hm, s1, hd, hR, q⟩ := h
    have hl := len ds r hR
    exact h2 ds r hR H Hm _ (L2.start N vs) H Hm ⟨Gr.refl s1, by rw [startR_len (by omega)]; unfold L2.start; rw [List.length_append, List.length_map, List.length_replicate]; have := hd.len; omega, start_sd hd, trivial⟩ fun v H' Hm' g hv => q v H' Hm' g hv
end LM

set_option Elab.async false
set_option linter.all false
set_option maxRecDepth 100000
/-! LmT: tuples of tuples and nothing else (T), as data, their order, sorted lists of them. Plain mathematics. -/
namespace LM
open PySem
inductive T where
  | n (ts : List T)
namespace T
mutual
def data : T → PyData
  | .n ts => .tuple (datas ts)
def datas : List T → List PyData
  | [] => []
  | t :: ts => data t :: datas ts
end
theorem datas_eq : ∀ ts : List T, datas ts = ts.map data
  | [] => rfl
  | t :: ts => by rw [datas, datas_eq ts]; rfl
theorem data_n (ts : List T) : data (.n ts) = .tuple (ts.map data) := by rw [data, datas_eq]
mutual
def cmp : T → T → Ordering
  | .n xs, .n ys => cmps xs ys
def cmps : List T → List T → Ordering
  | [], [] => .eq
  | [], _ :: _ => .lt
  | _ :: _, [] => .gt
  | x :: xs, y :: ys => match cmp x y with
    | .eq => cmps xs ys
    | .lt => .lt
    | .gt => .gt
end
mutual
theorem cmp_self : ∀ x : T, cmp x x = .eq
  | .n xs => by rw [cmp]; exact cmps_self xs
theorem cmps_self : ∀ xs : List T, cmps xs xs = .eq
  | [] => by rw [cmps]
  | x :: xs => by rw [cmps, cmp_self x]; exact cmps_self xs
end
mutual
theorem eq_of_cmp : ∀ x y : T, cmp x y = .eq → x = y
  | .n xs, .n ys, h => by rw [cmp] at h; rw [eq_of_cmps xs ys h]
theorem eq_of_cmps : ∀ xs ys : List T, cmps xs ys = .eq → xs = ys
  | [], [], _ => rfl
  | [], _ :: _, h => by rw [cmps] at h; cases h
  | _ :: _, [], h => by rw [cmps] at h; cases h
  | x :: xs, y :: ys, h => by
    rw [cmps] at h
    cases e : cmp x y with
    | eq =>
      rw [e] at h
      rw [eq_of_cmp x y e, eq_of_cmps xs ys h]
    | lt => rw [e] at h; cases h
    | gt => rw [e] at h; cases h
end
mutual
theorem cmp_swap : ∀ x y : T, cmp y x = (cmp x y).swap
  | .n xs, .n ys => by rw [cmp, cmp]; exact cmps_swap xs ys
theorem cmps_swap : ∀ xs ys : List T, cmps ys xs = (cmps xs ys).swap
  | [], [] => by rw [cmps]; rfl
  | [], _ :: _ => by rw [cmps, cmps]; rfl
  | _ :: _, [] => by rw [cmps, cmps]; rfl
  | x :: xs, y :: ys => by
    rw [cmps, cmps, cmp_swap x y]
    cases e : cmp x y with
    | eq => exact cmps_swap xs ys
    | lt => rfl
    | gt => rfl
end
mutual
theorem cmp_trans : ∀ x y z : T, cmp x y = .lt → cmp y z = .lt → cmp x z = .lt
  | .n xs, .n ys, .n zs, h1, h2 => by rw [cmp] at *; exact cmps_trans xs ys zs h1 h2
theorem cmps_trans : ∀ xs ys zs : List T, cmps xs ys = .lt → cmps ys zs = .lt → cmps xs zs = .lt
  | [], _, [], h1, h2 => by
    rename_i ys
    cases ys with
    | nil => rw [cmps] at h1; cases h1
    | cons _ _ => rw [cmps] at h2; cases h2
  | [], _, _ :: _, _, _ => by rw [cmps]
  | _ :: _, [], _, h1, _ => by rw [cmps] at h1; cases h1
  | _ :: _, _ :: _, [], _, h2 => by rw [cmps] at h2; cases h2
  | x :: xs, y :: ys, z :: zs, h1, h2 => by
    rw [cmps] at h1 h2 ⊢
    cases e1 : cmp x y with
    | gt => rw [e1] at h1; cases h1
    | eq =>
      have := eq_of_cmp x y e1
      subst this
      rw [e1] at h1
      cases e2 : cmp x z with
      | gt => rw [e2] at h2; cases h2
      | lt => rfl
      | eq =>
        rw [e2] at h2
        exact cmps_trans xs ys zs h1 h2
    | lt =>
      cases e2 : cmp y z with
      | gt => rw [e2] at h2; cases h2
      | eq =>
        have := eq_of_cmp y z e2
        subst this
        rw [e1]
      | lt => rw [cmp_trans x y z e1 e2]
end
theorem cmp_eq {x y : T} : cmp x y = .eq ↔ x = y := ⟨eq_of_cmp x y, fun e => e ▸ cmp_self x⟩
instance : DecidableEq T := fun x y => if h : cmp x y = .eq then .isTrue (eq_of_cmp x y h) else .isFalse fun e => h (e ▸ cmp_self x)
theorem swap_gt {x y : T} : cmp x y = .gt ↔ cmp y x = .lt := by rw [cmp_swap x y]; cases cmp x y <;> decide
def lt (x y : T) : Bool := cmp x y == .lt
def lts (xs ys : List T) : Bool := cmps xs ys == .lt
theorem lt_iff {x y : T} : lt x y = true ↔ cmp x y = .lt := by unfold lt; cases cmp x y <;> decide
theorem lt_irr (x : T) : lt x x = false := by unfold lt; rw [cmp_self]; rfl
theorem lt_trans {x y z : T} (h1 : lt x y = true) (h2 : lt y z = true) : lt x z = true := lt_iff.mpr (cmp_trans x y z (lt_iff.mp h1) (lt_iff.mp h2))
theorem lt_asym {x y : T} (h : lt x y = true) : lt y x = false := by
  unfold lt
  rw [cmp_swap x y, lt_iff.mp h]; rfl
theorem lt_tot {x y : T} (h1 : lt x y = false) (h2 : lt y x = false) : x = y := by
  unfold lt at h1 h2
  rw [cmp_swap x y] at h2
  cases e : cmp x y with
  | eq => exact eq_of_cmp x y e
  | lt => rw [e] at h1; cases h1
  | gt => rw [e] at h2; cases h2
theorem nlt_trans {x y z : T} (h1 : lt y x = false) (h2 : lt z y = false) : lt z x = false := by
  cases h : lt z x with
  | false => rfl
  | true =>
    cases h3 : lt x y with
    | true => rw [lt_trans h h3] at h2; cases h2
    | false =>
      have := lt_tot h3 h1
      subst this
      rw [h] at h2; cases h2
/-- not above -/
def le (x y : T) : Prop := lt y x = false
theorem le_anti {x y : T} (h1 : le x y) (h2 : le y x) : x = y := lt_tot h2 h1
/-- strictly rising -/
def Asc (l : List T) : Prop := l.Pairwise fun x y => lt x y = true
theorem Asc.nodup {l : List T} (h : Asc l) : l.Nodup := h.imp fun {x y} hxy e => by
  rw [e, lt_irr] at hxy; cases hxy
theorem asc_ext : ∀ {l m : List T}, Asc l → Asc m → (∀ x, x ∈ l ↔ x ∈ m) → l = m
  | [], [], _, _, _ => rfl
  | [], y :: m, _, _, h => absurd ((h y).mpr List.mem_cons_self) (by simp)
  | x :: l, [], _, _, h => absurd ((h x).mp List.mem_cons_self) (by simp)
  | x :: l, y :: m, hl, hm, h => by
    have hl' := List.pairwise_cons.mp hl
    have hm' := List.pairwise_cons.mp hm
    have e : x = y := by
      rcases List.mem_cons.mp ((h x).mp List.mem_cons_self) with e | hx
      · exact e
      · rcases List.mem_cons.mp ((h y).mpr List.mem_cons_self) with e | hy
        · exact e.symm
        · have a := hm'.1 x hx
          have b := hl'.1 y hy
          rw [lt_asym a] at b; cases b
    subst e
    rw [asc_ext hl'.2 hm'.2 fun z => ?_]
    constructor
    · intro hz
      rcases List.mem_cons.mp ((h z).mp (List.mem_cons_of_mem _ hz)) with e | hz'
      · have := hl'.1 z hz
        rw [e, lt_irr] at this; cases this
      · exact hz'
    · intro hz
      rcases List.mem_cons.mp ((h z).mpr (List.mem_cons_of_mem _ hz)) with e | hz'
      · have := hm'.1 z hz
        rw [e, lt_irr] at this; cases this
      · exact hz'
/-- put in its place, once -/
def uins (x : T) : List T → List T
  | [] => [x]
  | y :: ys => match cmp x y with
    | .lt => x :: y :: ys
    | .eq => y :: ys
    | .gt => y :: uins x ys
/-- the set, rising -/
def set : List T → List T
  | [] => []
  | x :: xs => uins x (set xs)
theorem mem_uins {x z : T} : ∀ {l : List T}, z ∈ uins x l ↔ z = x ∨ z ∈ l
  | [] => by simp [uins]
  | y :: ys => by
    unfold uins
    cases e : cmp x y with
    | lt => simp
    | eq =>
      have := eq_of_cmp x y e
      subst this
      simp only [List.mem_cons]
      constructor
      · exact fun h => .inr h
      · rintro (h | h)
        · exact .inl h
        · exact h
    | gt =>
      simp only [List.mem_cons, mem_uins (l := ys)]
      constructor
      · rintro (h | h | h)
        · exact .inr (.inl h)
        · exact .inl h
        · exact .inr (.inr h)
      · rintro (h | h | h)
        · exact .inr (.inl h)
        · exact .inl h
        · exact .inr (.inr h)
theorem mem_set {z : T} : ∀ {l : List T}, z ∈ set l ↔ z ∈ l
  | [] => by simp [set]
  | x :: xs => by rw [set, mem_uins, mem_set (l := xs), List.mem_cons]
theorem asc_uins {x : T} : ∀ {l : List T}, Asc l → Asc (uins x l)
  | [], _ => List.pairwise_singleton _ _
  | y :: ys, h => by
    have h' := List.pairwise_cons.mp h
    unfold uins
    cases e : cmp x y with
    | lt =>
      refine List.pairwise_cons.mpr ⟨fun z hz => ?_, h⟩
      rcases List.mem_cons.mp hz with rfl | hz
      · exact lt_iff.mpr e
      · exact lt_trans (lt_iff.mpr e) (h'.1 z hz)
    | eq => exact h
    | gt =>
      refine List.pairwise_cons.mpr ⟨fun z hz => ?_, asc_uins h'.2⟩
      rcases mem_uins.mp hz with rfl | hz
      · exact lt_iff.mpr (swap_gt.mp e)
      · exact h'.1 z hz
theorem asc_set : ∀ l : List T, Asc (set l)
  | [] => List.Pairwise.nil
  | x :: xs => asc_uins (asc_set xs)
theorem set_of {l m : List T} (h : Asc l) (e : ∀ x, x ∈ l ↔ x ∈ m) : l = set m := asc_ext h (asc_set m) fun x => by rw [e, mem_set]
theorem set_idem {l : List T} (h : Asc l) : set l = l := (set_of h fun _ => Iff.rfl).symm
theorem set_ext {l m : List T} (e : ∀ x, x ∈ l ↔ x ∈ m) : set l = set m := asc_ext (asc_set l) (asc_set m) fun x => by rw [mem_set, mem_set, e]
theorem set_len (l : List T) : (set l).length ≤ l.length := by
  have key : ∀ (x : T) (l : List T), (uins x l).length ≤ l.length + 1 := by
    intro x l
    induction l with
    | nil => simp [uins]
    | cons y ys ih =>
      unfold uins
      cases cmp x y <;> simp <;> omega
  induction l with
  | nil => simp [set]
  | cons x xs ih =>
    have := key x (set xs)
    rw [set, List.length_cons]; omega
/-- put in its place -/
def ins (x : T) : List T → List T
  | [] => [x]
  | y :: ys => if lt y x = true then y :: ins x ys else x :: y :: ys
def sort : List T → List T
  | [] => []
  | x :: xs => ins x (sort xs)
def Srt (l : List T) : Prop := l.Pairwise fun x y => lt y x = false
theorem ins_perm (x : T) : ∀ l : List T, (ins x l).Perm (x :: l)
  | [] => List.Perm.refl _
  | y :: ys => by
    unfold ins
    split
    · exact ((ins_perm x ys).cons y).trans (List.Perm.swap x y ys)
    · exact List.Perm.refl _
theorem sort_perm : ∀ l : List T, (sort l).Perm l
  | [] => List.Perm.refl _
  | x :: xs => (ins_perm x (sort xs)).trans ((sort_perm xs).cons x)
theorem ins_srt {x : T} : ∀ {l : List T}, Srt l → Srt (ins x l)
  | [], _ => List.pairwise_singleton _ _
  | y :: ys, h => by
    have h' := List.pairwise_cons.mp h
    unfold ins
    split
    · rename_i hc
      refine List.pairwise_cons.mpr ⟨fun z hz => ?_, ins_srt h'.2⟩
      rcases List.mem_cons.mp ((ins_perm x ys).mem_iff.mp hz) with rfl | hz
      · exact lt_asym hc
      · exact h'.1 z hz
    · rename_i hc
      have hc : lt y x = false := by
        cases e : lt y x with
        | false => rfl
        | true => exact absurd e hc
      refine List.pairwise_cons.mpr ⟨fun z hz => ?_, h⟩
      rcases List.mem_cons.mp hz with rfl | hz
      · exact hc
      · exact nlt_trans hc (h'.1 z hz)
theorem sort_srt : ∀ l : List T, Srt (sort l)
  | [] => List.Pairwise.nil
  | x :: xs => ins_srt (sort_srt xs)
theorem srt_uniq : ∀ {l m : List T}, Srt l → Srt m → l.Perm m → l = m
  | [], m, _, _, h => (List.Perm.eq_nil h.symm).symm
  | x :: l, [], _, _, h => absurd h.length_eq (by simp)
  | x :: l, y :: m, hl, hm, h => by
    have hl' := List.pairwise_cons.mp hl
    have hm' := List.pairwise_cons.mp hm
    have e : x = y := by
      rcases List.mem_cons.mp (h.mem_iff.mp (List.mem_cons_self (a := x) (l := l))) with e | hx
      · exact e
      · rcases List.mem_cons.mp (h.mem_iff.mpr (List.mem_cons_self (a := y) (l := m))) with e | hy
        · exact e.symm
        · exact lt_tot (hm'.1 x hx) (hl'.1 y hy)
    subst e
    rw [srt_uniq hl'.2 hm'.2 h.cons_inv]
theorem sort_of {l m : List T} (h : Srt l) (p : l.Perm m) : l = sort m := srt_uniq h (sort_srt m) (p.trans (sort_perm m).symm)
theorem Asc.srt {l : List T} (h : Asc l) : Srt l := h.imp fun hxy => lt_asym hxy
theorem mem_sort {x : T} {l : List T} : x ∈ sort l ↔ x ∈ l := (sort_perm l).mem_iff
theorem sort_len (l : List T) : (sort l).length = l.length := (sort_perm l).length_eq
/-- from the left, an item that the last one is not -/
def once (acc : List T) : List T → List T
  | [] => acc
  | x :: xs => once (if acc.getLast? = some x then acc else acc ++ [x]) xs
theorem once_set : ∀ (l acc : List T), Asc acc → Srt l → (∀ x ∈ acc, ∀ y ∈ l, lt y x = false) → Asc (once acc l) ∧ ∀ x, x ∈ once acc l ↔ x ∈ acc ∨ x ∈ l
  | [], acc, h, _, _ => ⟨h, fun x => by simp [once]⟩
  | x :: xs, acc, h, hs, hb => by
    have hs' := List.pairwise_cons.mp hs
    unfold once
    by_cases hc : acc.getLast? = some x
    · rw [if_pos hc]
      have hm : x ∈ acc := List.mem_of_getLast? hc
      obtain ⟨h1, h2⟩ := once_set xs acc h hs'.2 fun a ha y hy => hb a ha y (List.mem_cons_of_mem _ hy)
      refine ⟨h1, fun z => ?_⟩
      rw [h2, List.mem_cons]
      constructor
      · rintro (h | h)
        · exact .inl h
        · exact .inr (.inr h)
      · rintro (h | rfl | h)
        · exact .inl h
        · exact .inl hm
        · exact .inr h
    · rw [if_neg hc]
      have hx : ∀ a ∈ acc, lt a x = true := fun a ha => by
        have h1 := hb a ha x List.mem_cons_self
        cases h2 : lt a x with
        | true => rfl
        | false =>
          exfalso
          have e := lt_tot h2 h1
          subst e
          cases hl : acc.getLast? with
          | none => rw [List.getLast?_eq_none_iff] at hl; rw [hl] at ha; cases ha
          | some b =>
            have hbm := List.mem_of_getLast? hl
            have hba := hb b hbm a List.mem_cons_self
            obtain ⟨pre, rfl⟩ := List.getLast?_eq_some_iff.mp hl
            rcases List.mem_append.mp ha with ha | ha
            · have := (List.pairwise_append.mp h).2.2 a ha b (by simp)
              rw [this] at hba; cases hba
            · have : a = b := by simpa using ha
              subst this
              exact hc hl
      have h3 : Asc (acc ++ [x]) := List.pairwise_append.mpr ⟨h, List.pairwise_singleton _ _, fun a ha b hb => by
        have : b = x := by simpa using hb
        subst this
        exact hx a ha⟩
      obtain ⟨h1, h2⟩ := once_set xs (acc ++ [x]) h3 hs'.2 fun a ha y hy => by
        rcases List.mem_append.mp ha with ha | ha
        · exact hb a ha y (List.mem_cons_of_mem _ hy)
        · have : a = x := by simpa using ha
          subst this
          exact hs'.1 y hy
      refine ⟨h1, fun z => ?_⟩
      rw [h2, List.mem_append, List.mem_singleton, List.mem_cons, or_assoc]
theorem once_sort (l : List T) : once [] (sort l) = set l := by
  obtain ⟨h1, h2⟩ := once_set (sort l) [] List.Pairwise.nil (sort_srt l) (fun a ha => by cases ha)
  refine set_of h1 fun x => ?_
  rw [h2, mem_sort]
  simp
mutual
/-- how deep the tuples are -/
def depth : T → Nat
  | .n ts => depths ts + 1
def depths : List T → Nat
  | [] => 0
  | t :: ts => max (depth t) (depths ts)
end
theorem depth_mem {t : T} : ∀ {ts : List T}, t ∈ ts → depth t ≤ depths ts
  | [], h => by cases h
  | u :: us, h => by
    rw [depths]
    rcases List.mem_cons.mp h with rfl | h
    · exact Nat.le_max_left _ _
    · exact Nat.le_trans (depth_mem h) (Nat.le_max_right _ _)
theorem depths_le {k : Nat} : ∀ {ts : List T}, (∀ t ∈ ts, depth t ≤ k) → depths ts ≤ k
  | [], _ => by rw [depths]; exact Nat.zero_le _
  | u :: us, h => by
    rw [depths]
    exact Nat.max_le.mpr ⟨h u List.mem_cons_self, depths_le fun t ht => h t (List.mem_cons_of_mem _ ht)⟩
mutual
theorem data_depth : ∀ t : T, (data t).depth = depth t
  | .n ts => by rw [data, PyData.depth, depth, datas_depth ts]
theorem datas_depth : ∀ ts : List T, PyData.depthAll (datas ts) = depths ts
  | [] => by rw [datas, PyData.depthAll, depths]
  | t :: ts => by rw [datas, PyData.depthAll, depths, data_depth t, datas_depth ts]
end
mutual
theorem data_lay : ∀ t : T, (data t).canLay0 = true
  | .n ts => by rw [data, PyData.canLay0]; exact datas_lay ts
theorem datas_lay : ∀ ts : List T, PyData.canLayAll0 (datas ts) = true
  | [] => by rw [datas, PyData.canLayAll0]
  | t :: ts => by rw [datas, PyData.canLayAll0, data_lay t, datas_lay ts]; rfl
end
theorem data_shaped {t : T} (h : depth t ≤ 64) : SeqAt.shaped (data t) = true := by
  unfold SeqAt.shaped
  rw [data_lay, data_depth]
  simpa using h
mutual
theorem data_inj : ∀ x y : T, data x = data y → x = y
  | .n xs, .n ys, h => by
    rw [data, data] at h
    rw [datas_inj xs ys (PyData.tuple.inj h)]
theorem datas_inj : ∀ xs ys : List T, datas xs = datas ys → xs = ys
  | [], [], _ => rfl
  | [], _ :: _, h => by rw [datas, datas] at h; cases h
  | _ :: _, [], h => by rw [datas, datas] at h; cases h
  | x :: xs, y :: ys, h => by
    rw [datas, datas] at h
    injection h with h1 h2
    rw [data_inj x y h1, datas_inj xs ys h2]
end
mutual
theorem data_eqv : ∀ x y : T, PyData.eqv (data x) (data y) = decide (x = y)
  | .n xs, .n ys => by
    rw [data, data, PyData.eqv, datas_eqv xs ys]
    by_cases h : xs = ys
    · subst h; simp
    · have : ¬ T.n xs = T.n ys := fun e => h (T.n.inj e)
      rw [decide_eq_false h, decide_eq_false this]
theorem datas_eqv : ∀ xs ys : List T, PyData.eqvAll (datas xs) (datas ys) = decide (xs = ys)
  | [], [] => by simp [datas, PyData.eqvAll]
  | [], _ :: _ => by simp [datas, PyData.eqvAll]
  | _ :: _, [] => by simp [datas, PyData.eqvAll]
  | x :: xs, y :: ys => by
    rw [datas, datas, PyData.eqvAll, data_eqv x y, datas_eqv xs ys]
    by_cases h1 : x = y
    · by_cases h2 : xs = ys
      · simp [h1, h2]
      · simp [h1, h2]
    · simp [h1]
end
end T
end LM

set_option Elab.async false
set_option linter.all false
set_option maxRecDepth 100000
/-! Lm4: <, >= and sorted of tuples of tuples (T). -/
namespace LM
open PySem PySem.Spec PyProof.Rows L2 Evl
mutual
inductive IsT (h : Heap) : T → Value → Prop
  | n {a o ts k} {vs : Array Value} : h.get? a = some o → o.cls = .type "tuple" → o.data = .seq vs k → IsTs h ts vs.toList → IsT h (.n ts) (.ref a)
inductive IsTs (h : Heap) : List T → List Value → Prop
  | nil : IsTs h [] []
  | cons {t v ts vs} : IsT h t v → IsTs h ts vs → IsTs h (t :: ts) (v :: vs)
end
theorem IsTs.len {h : Heap} : ∀ {ts : List T} {vs : List Value}, IsTs h ts vs → vs.length = ts.length
  | _, _, .nil => rfl
  | _, _, .cons _ r => congrArg (· + 1) (IsTs.len r)
mutual
theorem IsT.reads {h : Heap} : ∀ (t : T) (v : Value), IsT h t v → ∃ as, Reads h v t.data as
  | .n ts, _, x => by
    cases x with
    | n h1 h2 h3 h4 =>
      obtain ⟨as, r⟩ := IsTs.reads ts _ h4
      exact ⟨as, by rw [T.data]; exact Reads.tuple h1 h2 h3 r⟩
theorem IsTs.reads {h : Heap} : ∀ (ts : List T) (vs : List Value), IsTs h ts vs → ∃ as, ReadsAll h vs (T.datas ts) as
  | [], _, x => by cases x; exact ⟨_, by rw [T.datas]; exact ReadsAll.nil⟩
  | t :: ts, _, x => by
    cases x with
    | cons h1 h2 =>
      obtain ⟨as, r1⟩ := IsT.reads t _ h1
      obtain ⟨bs, r2⟩ := IsTs.reads ts _ h2
      exact ⟨_, by rw [T.datas]; exact ReadsAll.cons r1 r2⟩
end
mutual
theorem IsT.keep {h h' : Heap} (k : ∀ b o, h.get? b = some o → o.cls = .type "tuple" → h'.get? b = some o) : ∀ (t : T) (v : Value), IsT h t v → IsT h' t v
  | .n ts, _, x => by
    cases x with
    | n h1 h2 h3 h4 => exact .n (k _ _ h1 h2) h2 h3 (IsTs.keep k ts _ h4)
theorem IsTs.keep {h h' : Heap} (k : ∀ b o, h.get? b = some o → o.cls = .type "tuple" → h'.get? b = some o) : ∀ (ts : List T) (vs : List Value), IsTs h ts vs → IsTs h' ts vs
  | [], _, x => by cases x; exact .nil
  | t :: ts, _, x => by
    cases x with
    | cons h1 h2 => exact .cons (IsT.keep k t _ h1) (IsTs.keep k ts _ h2)
end
mutual
theorem IsT.inj {h : Heap} : ∀ (t u : T) (v : Value), IsT h t v → IsT h u v → t = u
  | .n ts, _, _, x, y => by
    cases x with
    | n h1 h2 h3 h4 =>
      cases y with
      | n k1 k2 k3 k4 =>
        rw [h1] at k1; cases k1
        rw [h3] at k3; cases k3
        rw [IsTs.inj ts _ _ h4 k4]
theorem IsTs.inj {h : Heap} : ∀ (ts us : List T) (vs : List Value), IsTs h ts vs → IsTs h us vs → ts = us
  | [], _, _, x, y => by cases x; cases y; rfl
  | t :: ts, _, _, x, y => by
    cases x with
    | cons h1 h2 =>
      cases y with
      | cons k1 k2 => rw [IsT.inj t _ _ h1 k1, IsTs.inj ts _ _ h2 k2]
end
theorem IsTs.get {h : Heap} : ∀ {ts : List T} {vs : List Value} {i : Nat} (h1 : i < vs.length) (h2 : i < ts.length), IsTs h ts vs → IsT h ts[i] vs[i]
  | _, _, 0, _, _, .cons x _ => x
  | _, _, i + 1, h1, h2, .cons _ r => IsTs.get (i := i) (by simpa using h1) (by simpa using h2) r
/-- == of two of them -/
theorem eqAt_T {x y : T} {A : Around} {s : Shared} {a b : Value} (h1 : IsT s.heap x a) (h2 : IsT s.heap y b) (hu : A.units + min x.depth y.depth < cLine) : SeqAt.EqAt A s a b (decide (x = y)) := by
  obtain ⟨as, r1⟩ := h1.reads
  obtain ⟨bs, r2⟩ := h2.reads
  have q := SeqAt.eqAt_reads x.data y.data A s a b as bs r1 r2 (T.data_lay x) (T.data_lay y) (by rw [T.data_depth, T.data_depth]; exact hu)
  rwa [T.data_eqv] at q
/-- the first place whose items differ -/
theorem lex_lts : ∀ (xs ys : List T) (e r : Nat → Bool) (i : Nat), (∀ j (h1 : j < xs.length) (h2 : j < ys.length), e (i + j) = decide (xs[j] = ys[j]) ∧ r (i + j) = T.lt xs[j] ys[j]) →
    Ob.lexAt e r (decide (xs.length < ys.length)) i (min xs.length ys.length) = T.lts xs ys
  | [], [], _, _, _, _ => by simp [Ob.lexAt, T.lts, T.cmps]
  | [], _ :: _, _, _, _, _ => by simp [Ob.lexAt, T.lts, T.cmps]
  | _ :: _, [], _, _, _, _ => by simp [Ob.lexAt, T.lts, T.cmps]
  | x :: xs, y :: ys, e, r, i, h => by
    have e1 : min (x :: xs).length (y :: ys).length = min xs.length ys.length + 1 := by simp only [List.length_cons]; omega
    have e2 : decide ((x :: xs).length < (y :: ys).length) = decide (xs.length < ys.length) := by simp
    obtain ⟨h0, h0'⟩ := h 0 (by simp) (by simp)
    rw [e1, e2, Ob.lexAt_succ]
    have ih := lex_lts xs ys e r (i + 1) fun j h1 h2 => by
      have q := h (j + 1) (by simpa using h1) (by simpa using h2)
      have z : i + 1 + j = i + (j + 1) := by omega
      rw [z]
      simpa using q
    simp only [Nat.add_zero, List.getElem_cons_zero] at h0 h0'
    rw [h0, h0', ih]
    unfold T.lts T.lt
    rw [T.cmps]
    by_cases q : x = y
    · subst q; rw [T.cmp_self]; simp
    · have : T.cmp x y ≠ .eq := fun z => q (T.eq_of_cmp x y z)
      rw [decide_eq_false q]
      cases z : T.cmp x y
      · simp
      · exact absurd z this
      · simp
theorem lex_ges : ∀ (xs ys : List T) (e r : Nat → Bool) (i : Nat), (∀ j (h1 : j < xs.length) (h2 : j < ys.length), e (i + j) = decide (xs[j] = ys[j]) ∧ r (i + j) = !T.lt xs[j] ys[j]) →
    Ob.lexAt e r (decide (xs.length ≥ ys.length)) i (min xs.length ys.length) = !T.lts xs ys
  | [], [], _, _, _, _ => by simp [Ob.lexAt, T.lts, T.cmps]
  | [], _ :: _, _, _, _, _ => by simp [Ob.lexAt, T.lts, T.cmps]
  | _ :: _, [], _, _, _, _ => by simp [Ob.lexAt, T.lts, T.cmps]
  | x :: xs, y :: ys, e, r, i, h => by
    have e1 : min (x :: xs).length (y :: ys).length = min xs.length ys.length + 1 := by simp only [List.length_cons]; omega
    have e2 : decide ((x :: xs).length ≥ (y :: ys).length) = decide (xs.length ≥ ys.length) := by simp
    obtain ⟨h0, h0'⟩ := h 0 (by simp) (by simp)
    rw [e1, e2, Ob.lexAt_succ]
    have ih := lex_ges xs ys e r (i + 1) fun j h1 h2 => by
      have q := h (j + 1) (by simpa using h1) (by simpa using h2)
      have z : i + 1 + j = i + (j + 1) := by omega
      rw [z]
      simpa using q
    simp only [Nat.add_zero, List.getElem_cons_zero] at h0 h0'
    rw [h0, h0', ih]
    unfold T.lts T.lt
    rw [T.cmps]
    by_cases q : x = y
    · subst q; rw [T.cmp_self]; simp
    · have : T.cmp x y ≠ .eq := fun z => q (T.eq_of_cmp x y z)
      rw [decide_eq_false q]
      cases z : T.cmp x y
      · simp
      · exact absurd z this
      · simp
theorem min_in {u a b : Nat} (h : u + min (a + 1) (b + 1) < cLine) : u + 1 + min a b < cLine := SeqAt.room_in h
theorem min_mono {u a b c d : Nat} (h : u + min a b < cLine) (h1 : c ≤ a) (h2 : d ≤ b) : u + min c d < cLine := by
  have : min c d ≤ min a b := Nat.le_min.mpr ⟨Nat.le_trans (Nat.min_le_left _ _) h1, Nat.le_trans (Nat.min_le_right _ _) h2⟩
  omega
mutual
theorem rcLt_T : ∀ (x y : T) (A : Around) (s : Shared) (a b : Value), IsT s.heap x a → IsT s.heap y b → A.units + min x.depth y.depth < cLine → Ob.RcOp .Lt A s a b (T.lt x y)
  | .n xs, .n ys, A, s, _, _, h1, h2, hu => by
    cases h1 with
    | @n a o _ k vs a1 a2 a3 a4 =>
      cases h2 with
      | @n b o' _ k' ws b1 b2 b3 b4 =>
        have n1 := a4.len
        have n2 := b4.len
        simp only [Array.length_toList] at n1 n2
        rw [T.depth, T.depth] at hu
        have hlt : T.lt (.n xs) (.n ys) = T.lts xs ys := by unfold T.lt T.lts; rw [T.cmp]
        rw [hlt, ← lex_lts xs ys (fun j => decide (xs.getD j (.n []) = ys.getD j (.n []))) (fun j => T.lt (xs.getD j (.n [])) (ys.getD j (.n []))) 0 (fun j h1 h2 => by
          simp [List.getD_eq_getElem?_getD, List.getElem?_eq_getElem h1, List.getElem?_eq_getElem h2]), ← n1, ← n2]
        have hu1 : A.units < cLine := by omega
        refine Ob.RcOp.tuples_lt ⟨_, a1, a2, _, a3⟩ ⟨_, b1, b2, _, b3⟩ hu1 (fun j j1 j2 => ?_) (fun j j1 j2 _ => ?_)
        · have x1 : j < xs.length := by omega
          have x2 : j < ys.length := by omega
          have q := eqAt_T (A := A.in1) (a4.get (by simpa using j1) x1) (b4.get (by simpa using j2) x2) (min_mono (min_in hu) (T.depth_mem (List.getElem_mem x1)) (T.depth_mem (List.getElem_mem x2)))
          simp only [List.getD_eq_getElem?_getD, List.getElem?_eq_getElem x1, List.getElem?_eq_getElem x2, Option.getD_some]
          simpa using q
        · have x1 : j < xs.length := by omega
          have x2 : j < ys.length := by omega
          have q := rcLt_Ts xs ys A.in1 s vs.toList ws.toList a4 b4 (min_in hu) j (by simpa using j1) (by simpa using j2) x1 x2
          simp only [List.getD_eq_getElem?_getD, List.getElem?_eq_getElem x1, List.getElem?_eq_getElem x2, Option.getD_some]
          simpa using q
theorem rcLt_Ts : ∀ (xs ys : List T) (A : Around) (s : Shared) (vs ws : List Value), IsTs s.heap xs vs → IsTs s.heap ys ws → A.units + min (T.depths xs) (T.depths ys) < cLine →
    ∀ j (h1 : j < vs.length) (h2 : j < ws.length) (x1 : j < xs.length) (x2 : j < ys.length), Ob.RcOp .Lt A s vs[j] ws[j] (T.lt xs[j] ys[j])
  | [], _, _, _, _, _, _, _, _, j, _, _, x1, _ => absurd x1 (Nat.not_lt_zero _)
  | _ :: _, [], _, _, _, _, _, _, _, j, _, _, _, x2 => absurd x2 (Nat.not_lt_zero _)
  | x :: xs, y :: ys, A, s, _, _, ra, rb, hu, j, h1, h2, x1, x2 => by
    cases ra with
    | cons r rs =>
      cases rb with
      | cons r' rs' =>
        rw [T.depths, T.depths] at hu
        cases j with
        | zero => exact rcLt_T x y A s _ _ r r' (SeqAt.room_head hu)
        | succ j => exact rcLt_Ts xs ys A s _ _ rs rs' (SeqAt.room_tail hu) j (Nat.lt_of_succ_lt_succ h1) (Nat.lt_of_succ_lt_succ h2) (Nat.lt_of_succ_lt_succ x1) (Nat.lt_of_succ_lt_succ x2)
end
mutual
theorem rcGe_T : ∀ (x y : T) (A : Around) (s : Shared) (a b : Value), IsT s.heap x a → IsT s.heap y b → A.units + min x.depth y.depth < cLine → Ob.RcOp .GtE A s a b (!T.lt x y)
  | .n xs, .n ys, A, s, _, _, h1, h2, hu => by
    cases h1 with
    | @n a o _ k vs a1 a2 a3 a4 =>
      cases h2 with
      | @n b o' _ k' ws b1 b2 b3 b4 =>
        have n1 := a4.len
        have n2 := b4.len
        simp only [Array.length_toList] at n1 n2
        rw [T.depth, T.depth] at hu
        have hlt : T.lt (.n xs) (.n ys) = T.lts xs ys := by unfold T.lt T.lts; rw [T.cmp]
        rw [hlt, ← lex_ges xs ys (fun j => decide (xs.getD j (.n []) = ys.getD j (.n []))) (fun j => !T.lt (xs.getD j (.n [])) (ys.getD j (.n []))) 0 (fun j h1 h2 => by
          simp [List.getD_eq_getElem?_getD, List.getElem?_eq_getElem h1, List.getElem?_eq_getElem h2]), ← n1, ← n2]
        have hu1 : A.units < cLine := by omega
        refine Ob.RcOp.tuples_ge ⟨_, a1, a2, _, a3⟩ ⟨_, b1, b2, _, b3⟩ hu1 (fun j j1 j2 => ?_) (fun j j1 j2 _ => ?_)
        · have x1 : j < xs.length := by omega
          have x2 : j < ys.length := by omega
          have q := eqAt_T (A := A.in1) (a4.get (by simpa using j1) x1) (b4.get (by simpa using j2) x2) (min_mono (min_in hu) (T.depth_mem (List.getElem_mem x1)) (T.depth_mem (List.getElem_mem x2)))
          simp only [List.getD_eq_getElem?_getD, List.getElem?_eq_getElem x1, List.getElem?_eq_getElem x2, Option.getD_some]
          simpa using q
        · have x1 : j < xs.length := by omega
          have x2 : j < ys.length := by omega
          have q := rcGe_Ts xs ys A.in1 s vs.toList ws.toList a4 b4 (min_in hu) j (by simpa using j1) (by simpa using j2) x1 x2
          simp only [List.getD_eq_getElem?_getD, List.getElem?_eq_getElem x1, List.getElem?_eq_getElem x2, Option.getD_some]
          simpa using q
theorem rcGe_Ts : ∀ (xs ys : List T) (A : Around) (s : Shared) (vs ws : List Value), IsTs s.heap xs vs → IsTs s.heap ys ws → A.units + min (T.depths xs) (T.depths ys) < cLine →
    ∀ j (h1 : j < vs.length) (h2 : j < ws.length) (x1 : j < xs.length) (x2 : j < ys.length), Ob.RcOp .GtE A s vs[j] ws[j] (!T.lt xs[j] ys[j])
  | [], _, _, _, _, _, _, _, _, j, _, _, x1, _ => absurd x1 (Nat.not_lt_zero _)
  | _ :: _, [], _, _, _, _, _, _, _, j, _, _, _, x2 => absurd x2 (Nat.not_lt_zero _)
  | x :: xs, y :: ys, A, s, _, _, ra, rb, hu, j, h1, h2, x1, x2 => by
    cases ra with
    | cons r rs =>
      cases rb with
      | cons r' rs' =>
        rw [T.depths, T.depths] at hu
        cases j with
        | zero => exact rcGe_T x y A s _ _ r r' (SeqAt.room_head hu)
        | succ j => exact rcGe_Ts xs ys A s _ _ rs rs' (SeqAt.room_tail hu) j (Nat.lt_of_succ_lt_succ h1) (Nat.lt_of_succ_lt_succ h2) (Nat.lt_of_succ_lt_succ x1) (Nat.lt_of_succ_lt_succ x2)
end

/-! ### from the layer's values -/
section
variable {X : Cx} {pins : List (Addr × Obj)} {σ : L2.St} {H : Hp} {s : Shared}
mutual
theorem isT_of (I : Inv X pins σ H s) : ∀ (t : T) (v : V) (u : Value), Dp X.K H v t.data → RelV v u → IsT s.heap t u
  | .n ts, _, _, h, r => by
    rw [T.data] at h
    cases h with
    | tup hs ha =>
      cases r
      obtain ⟨its, rv, ⟨o, ho, hc, n, hd⟩, _⟩ := I.tuple hs
      exact .n ho hc hd (isTs_of I ts _ its ha rv)
theorem isTs_of (I : Inv X pins σ H s) : ∀ (ts : List T) (vs : List V) (us : List Value), DpAll X.K H vs (T.datas ts) → Vals vs us → IsTs s.heap ts us
  | [], _, _, h, r => by
    rw [T.datas] at h
    cases h
    cases r
    exact .nil
  | t :: ts, _, _, h, r => by
    rw [T.datas] at h
    cases h with
    | cons h1 h2 =>
      cases r with
      | cons r1 r2 => exact .cons (isT_of I t _ _ h1 r1) (isTs_of I ts _ _ h2 r2)
end
end
section
variable {X : Cx}
def rLtTr (K : PySem.W.Frag) : R2 := fun x y H Q => ∃ s t : T, Dp K H x s.data ∧ Dp K H y t.data ∧ min s.depth t.depth ≤ 60 ∧ Q (.bl (T.lt s t)) H
def rGeTr (K : PySem.W.Frag) : R2 := fun x y H Q => ∃ s t : T, Dp K H x s.data ∧ Dp K H y t.data ∧ min s.depth t.depth ≤ 60 ∧ Q (.bl (!T.lt s t)) H
theorem op_ltTr (hu : X.A.units + 64 < cLine) : OpR X (compareOp .Lt) (rLtTr X.K) := by
  intro pins s σ H x y v u Q I rx ry h
  obtain ⟨t1, t2, d1, d2, hd, q⟩ := h
  have R := rcLt_T t1 t2 X.A s v u (isT_of I t1 x v d1 rx) (isT_of I t2 y u d2 ry) (by omega)
  have z : wpAny (model X.prog X.w) X.A (compareOp .Lt v u) (EP X pins σ Q) X.xe s := R X.prog X.w X.xe (EP X pins σ Q) ⟨.bl _, H, I, rfl, q⟩
  exact z
theorem op_geTr (hu : X.A.units + 64 < cLine) : OpR X (compareOp .GtE) (rGeTr X.K) := by
  intro pins s σ H x y v u Q I rx ry h
  obtain ⟨t1, t2, d1, d2, hd, q⟩ := h
  have R := rcGe_T t1 t2 X.A s v u (isT_of I t1 x v d1 rx) (isT_of I t2 y u d2 ry) (by omega)
  have z : wpAny (model X.prog X.w) X.A (compareOp .GtE v u) (EP X pins σ Q) X.xe s := R X.prog X.w X.xe (EP X pins σ Q) ⟨.bl _, H, I, rfl, q⟩
  exact z
end
section
variable {K : PySem.W.Frag}
theorem rd_ltTr {s t : T} (h : min s.depth t.depth ≤ 60) : RD K (rLtTr K) s.data t.data (.bool (T.lt s t)) := fun H Hm x y e hx hy Q q => ⟨s, t, hx.mono e, hy.mono e, h, q _ H Hm (Gr.refl e) (.bl _)⟩
theorem rd_geTr {s t : T} (h : min s.depth t.depth ≤ 60) : RD K (rGeTr K) s.data t.data (.bool (!T.lt s t)) := fun H Hm x y e hx hy Q q => ⟨s, t, hx.mono e, hy.mono e, h, q _ H Hm (Gr.refl e) (.bl _)⟩
end

/-! ### sorted -/
open Classical in
noncomputable def tOf (h : Heap) (v : Value) : T := if x : ∃ t, IsT h t v then x.choose else .n []
theorem tOf_eq {h : Heap} {t : T} {v : Value} (x : IsT h t v) : tOf h v = t := by
  unfold tOf
  rw [dif_pos ⟨t, x⟩]
  exact IsT.inj _ _ _ (Exists.choose_spec (⟨t, x⟩ : ∃ t, IsT h t v)) x
section
variable {prog : Program} {w : World} {A : Around} {E : Value → Shared → Prop} {s : Shared}
theorem kat_T {Q : Bool → Shared → Prop} {fin : Bool} : ∀ (xs ys : List T) (us ws : List Value) (i : Nat), IsTs s.heap xs us → IsTs s.heap ys ws → A.units + min (T.depths xs) (T.depths ys) < cLine → fin = decide (us.length < ws.length) → Q (T.lts xs ys) s →
    PySem.W.KatLex prog w A false fin Q (us.zip ws) i s
  | [], [], _, _, i, h1, h2, _, hf, q => by
    cases h1; cases h2
    rw [hf]
    exact PySem.W.kat_nil (by simpa [T.lts, T.cmps] using q)
  | [], _ :: _, _, _, i, h1, h2, _, hf, q => by
    cases h1; cases h2
    rw [hf]
    exact PySem.W.kat_nil (by simpa [T.lts, T.cmps] using q)
  | _ :: _, [], _, _, i, h1, h2, _, hf, q => by
    cases h1; cases h2
    rw [hf]
    exact PySem.W.kat_nil (by simpa [T.lts, T.cmps] using q)
  | x :: xs, y :: ys, _, _, i, h1, h2, hu, hf, q => by
    cases h1 with
    | cons a1 a2 =>
      cases h2 with
      | cons b1 b2 =>
        rw [T.depths, T.depths] at hu
        refine PySem.W.kat_cons (eqAt_T a1 b1 (SeqAt.room_head hu) prog w _ _ ?_)
        refine PySem.W.kat_go (fun e => ?_) (fun e => ?_)
        · have exy : x = y := by simpa using e
          subst exy
          refine PySem.W.kat_yes (kat_T xs ys _ _ (i + 1) a2 b2 (SeqAt.room_tail hu) (by rw [hf]; simp) ?_)
          have : T.lts (x :: xs) (x :: ys) = T.lts xs ys := by unfold T.lts; rw [T.cmps, T.cmp_self]
          rw [← this]; exact q
        · have nxy : x ≠ y := by simpa using e
          refine PySem.W.kat_no (PySem.W.kat_one _ _ ?_)
          have : T.lts (x :: xs) (y :: ys) = T.lt x y := by
            unfold T.lts T.lt
            rw [T.cmps]
            cases z : T.cmp x y
            · rfl
            · exact absurd (T.eq_of_cmp x y z) nxy
            · rfl
          have R := rcLt_T x y A s _ _ a1 b1 (SeqAt.room_head hu)
          have z : wpAny (model prog w) A (compareOp .Lt _ _) (PySem.W.BoolBack Q) (fun _ _ => False) s := R prog w _ _ (show Q (T.lt x y) s by rw [← this]; exact q)
          exact z
theorem swo_T (h : Heap) : SrtO.Swo fun v u => T.lt (tOf h v) (tOf h u) := ⟨fun x y e => T.lt_asym e, fun x y z h1 h2 => T.nlt_trans h1 h2⟩
/-- games, and whatever tuples are not empty -/
def full : T → Bool
  | .n [] => false
  | .n (_ :: _) => true
theorem firsts_T {h : Heap} : ∀ {ts : List T} {vs : List Value}, IsTs h ts vs → (∀ t ∈ ts, full t = true) → ∃ fs : List Value, PySem.W.KatTups h vs fs ∧ fs.length = vs.length ∧ ∀ f ∈ fs, ∃ a o, f = Value.ref a ∧ h.get? a = some o ∧ o.cls = .type "tuple"
  | _, _, .nil, _ => ⟨[], PySem.W.KatTups.nil, rfl, fun _ hm => by simp at hm⟩
  | t :: ts, v :: vs, .cons x r, hf => by
    obtain ⟨fs, h1, h2, h3⟩ := firsts_T r fun t ht => hf t (List.mem_cons_of_mem _ ht)
    have hft := hf t List.mem_cons_self
    cases x with
    | @n a o us k ws ho hc hd ha =>
      cases us with
      | nil => simp [full] at hft
      | cons u us =>
        generalize e : ws.toList = wl at ha
        cases ha with
        | @cons _ f _ wr hu hr =>
          have hf0 : ws[0]? = some f := by rw [← Array.getElem?_toList, e]; rfl
          refine ⟨f :: fs, PySem.W.KatTups.cons ho hc hd hf0 h1, by rw [List.length_cons, List.length_cons, h2], fun g hg => ?_⟩
          rcases List.mem_cons.mp hg with rfl | hg
          · cases hu with
            | n k1 k2 k3 k4 => exact ⟨_, _, rfl, k1, k2⟩
          · exact h3 g hg
theorem isTs_all {h : Heap} : ∀ {ts : List T} {vs : List Value}, IsTs h ts vs → ∀ v ∈ vs, ∃ t ∈ ts, IsT h t v
  | _, _, .nil, v, hv => by simp at hv
  | _, _, .cons x r, v, hv => by
    rcases List.mem_cons.mp hv with rfl | hv
    · exact ⟨_, List.mem_cons_self, x⟩
    · obtain ⟨t, h1, h2⟩ := isTs_all r v hv
      exact ⟨t, List.mem_cons_of_mem _ h1, h2⟩
theorem sortable_T {a : Addr} {ts : List T} {vs : List Value} (h0 : 0 < vs.length) (x : IsTs s.heap ts vs) (hf : ∀ t ∈ ts, full t = true) (hd : T.depths ts ≤ 60) (hu : A.units + 62 < cLine) (g : Heap) (hg : ∀ v ∈ vs, tOf g v = tOf s.heap v) (ha : ∀ o, s.heap.get? a = some o → o.cls ≠ .type "tuple") :
    SrtO.SortableO prog w A s a vs fun v u => T.lt (tOf g v) (tOf g u) := by
  intro h' keep
  have keep' : ∀ b o, s.heap.get? b = some o → o.cls = .type "tuple" → h'.get? b = some o := fun b o e c => keep b o (fun z => by subst z; exact ha o e c) e
  have x' : IsTs h' ts vs := x.keep keep' ts vs
  obtain ⟨fs, h1, h2, h3⟩ := firsts_T x' hf
  refine ⟨tuples' false, fun Q E hq => ?_, fun p q hp hq => ?_⟩
  · refine PySem.W.kat_kind (T := .type "tuple") h1 (by omega) (fun f hm => ?_) (by rfl) ?_
    · obtain ⟨b, o, rfl, ho, hc⟩ := h3 f hm
      rw [← hc]
      exact (show PySem.W.Looks (model prog w) h' (typeOf (.ref b)) o.cls from (PySem.W.Looks.ld ho).andThen .now)
    · have e : (Value.type "tuple" != Value.type "tuple") = false := by first | decide +kernel | rfl | decide
      rw [e]
      exact hq
  · obtain ⟨t1, m1, y1⟩ := isTs_all x' _ hp
    obtain ⟨t2, m2, y2⟩ := isTs_all x' _ hq
    obtain ⟨t1', _, z1⟩ := isTs_all x _ hp
    obtain ⟨t2', _, z2⟩ := isTs_all x _ hq
    have e1 : tOf g p.1 = t1 := by rw [hg _ hp, tOf_eq z1]; exact IsT.inj _ _ _ (z1.keep keep' _ _) y1
    have e2 : tOf g q.1 = t2 := by rw [hg _ hq, tOf_eq z2]; exact IsT.inj _ _ _ (z2.keep keep' _ _) y2
    have d1 := T.depth_mem m1
    have d2 := T.depth_mem m2
    show wpAny (model prog w) A (keyLt' (tuples' false) p.1 q.1) (fun r s' => s' = { s with heap := h' } ∧ r = T.lt (tOf g p.1) (tOf g q.1)) (fun _ _ => False) { s with heap := h' }
    rw [e1, e2]
    generalize p.1 = pv at y1
    generalize q.1 = qv at y2
    cases y1 with
    | @n pa po pts pk pvs p1 p2 p3 p4 =>
      cases y2 with
      | @n qa qo qts qk qvs q1 q2 q3 q4 =>
        rw [T.depth] at d1 d2
        refine PySem.W.kat_lt p1 p3 q1 q3 ?_
        refine kat_T (s := { s with heap := h' }) pts qts _ _ 0 p4 q4 (by have := Nat.min_le_left (T.depths pts) (T.depths qts); omega) (by simp) ⟨rfl, ?_⟩
        unfold T.lts T.lt
        rw [T.cmp]
end
end LM

set_option Elab.async false
set_option linter.all false
set_option maxRecDepth 100000
/-! Lm5: sorted(a list of T). -/
namespace LM
open PySem PySem.Spec PyProof.Rows L2 Evl
theorem hu100 {A : Around} {k : Nat} (hr : Room k A) : A.units + 100 < cLine := by have := hr.un; omega
theorem hu64 {A : Around} {k : Nat} (hr : Room k A) : A.units + 64 < cLine := by have := hr.un; omega
def rSortTr (K : PySem.W.Frag) : List V → Hp → VK → Prop := fun vs H Q => ∃ (a : Addr) (xs : List V) (ts : List T), vs = [.ref a] ∧ SqL K H a xs ∧ DpAll K H xs (ts.map T.data) ∧ (∀ t ∈ ts, full t = true) ∧ T.depths ts ≤ 60 ∧
  ∀ ys p, H p = none → (∀ Hm, Ex Hm H → DpAll K Hm xs (ts.map T.data) → DpAll K Hm ys ((T.sort ts).map T.data)) → Q (.ref p) (upd H p (.lst ys))
theorem dpT_ref {K : PySem.W.Frag} {H : Hp} {v : V} {t : T} (h : Dp K H v t.data) : ∃ a, v = .ref a := by
  cases t with
  | n ts =>
    rw [T.data] at h
    obtain ⟨a, _, e, _⟩ := dp_tup h
    exact ⟨a, e⟩
theorem dpsT_all {K : PySem.W.Frag} {H : Hp} : ∀ {vs : List V} {ts : List T}, DpAll K H vs (ts.map T.data) → ∀ v ∈ vs, ∃ t ∈ ts, Dp K H v t.data
  | _, [], h, v, hv => by cases h; simp at hv
  | _, t :: ts, h, v, hv => by
    rw [List.map_cons] at h
    cases h with
    | cons h1 h2 =>
      rcases List.mem_cons.mp hv with rfl | hv
      · exact ⟨t, List.mem_cons_self, h1⟩
      · obtain ⟨u, hu, d⟩ := dpsT_all h2 v hv
        exact ⟨u, List.mem_cons_of_mem _ hu, d⟩
theorem dps_map {K : PySem.W.Frag} {H : Hp} {α : Type} {f : α → V} {g : α → D} : ∀ {l : List α}, (∀ x ∈ l, Dp K H (f x) (g x)) → DpAll K H (l.map f) (l.map g)
  | [], _ => .nil
  | x :: l, h => .cons (h x List.mem_cons_self) (dps_map fun y hy => h y (List.mem_cons_of_mem _ hy))
theorem tOfs {h : Heap} : ∀ {ts : List T} {vs : List Value}, IsTs h ts vs → vs.map (tOf h) = ts
  | _, _, .nil => rfl
  | _, _, .cons x r => by rw [List.map_cons, tOf_eq x, tOfs r]
section
variable {X : Cx}
theorem back_rel {v : Value} {x : V} {a : Addr} (r : RelV x v) (e : x = .ref a) : v = .ref a ∧ backV v = x := by
  subst e
  cases r
  exact ⟨rfl, rfl⟩
/-- what sorted leaves, told by data -/
theorem sorted_out {pins : List (Addr × Obj)} {σ : L2.St} {H : Hp} {s : Shared} {xs : List V} {its out : List Value} {ts : List T} (I : Inv X pins σ H s) (hd : DpAll X.K H xs (ts.map T.data)) (rv : Vals xs its)
    (h1 : SrtO.Srtd (fun v u => T.lt (tOf s.heap v) (tOf s.heap u)) out) (h2 : out.Perm its) : Vals (out.map backV) out ∧ ∀ Hm, Ex Hm H → DpAll X.K Hm xs (ts.map T.data) → DpAll X.K Hm (out.map backV) ((T.sort ts).map T.data) := by
  have x : IsTs s.heap ts its := isTs_of I ts xs its (by rw [T.datas_eq]; exact hd) rv
  obtain ⟨e1, e2⟩ := refs_back rv fun v hv => by
    obtain ⟨t, _, d⟩ := dpsT_all hd v hv
    exact dpT_ref d
  have hr : ∀ u ∈ out, ∃ a, u = Value.ref a := fun u hu => e2 u (h2.mem_iff.mp hu)
  refine ⟨vals_back hr, fun Hm em hdm => ?_⟩
  have hs : T.Srt (out.map (tOf s.heap)) := List.pairwise_map.mpr (h1.imp fun {a b} h => h)
  have hp : (out.map (tOf s.heap)).Perm ts := by
    have := h2.map (tOf s.heap)
    rwa [tOfs x] at this
  rw [← T.sort_of hs hp, List.map_map]
  refine dps_map fun u hu => ?_
  have hm := h2.mem_iff.mp hu
  have hx : backV u ∈ xs := by rw [e1]; exact List.mem_map.mpr ⟨u, hm, rfl⟩
  obtain ⟨t, ht, d⟩ := dpsT_all hdm _ hx
  obtain ⟨a, rfl⟩ := hr u hu
  have y := isT_of I t _ _ (d.mono em) (show RelV (.ref a) (.ref a) from rfl)
  show Dp X.K Hm _ (T.data (tOf s.heap _))
  rw [tOf_eq y]
  exact d
theorem cr_sortedTr (hu : X.A.units + 100 < cLine) : CallR X (.builtin "sorted") (rSortTr X.K) := by
  intro pins s σ H vs us Q I r h
  obtain ⟨a, xs, ts, rfl, hs, hd, hf, hdep, q⟩ := h
  obtain ⟨its, rv, hl, hz⟩ := I.list hs
  obtain ⟨u, rfl, ru⟩ := vals1 r
  obtain rfl : u = Value.ref a := ru
  have x : IsTs s.heap ts its := isTs_of I ts xs its (by rw [T.datas_eq]; exact hd) rv
  have hzi : its.length ≤ sizeLine := by rw [← rv.length]; exact hz
  refine SrtO.sorted_ord (swo_T s.heap) hl.isList hzi (fun h2 h₁ b hb kk => ?_) fun out h1 h2 => ?_
  · refine sortable_T (s := { s with heap := h₁ }) (by omega) (x.keep (fun c o e _ => (kk c o e).2) ts its) hf hdep (by show X.A.units + 1 + 1 + 62 < cLine; omega) s.heap (fun v hv => ?_) fun o e => ?_
    · obtain ⟨t, _, y⟩ := isTs_all x v hv
      rw [tOf_eq y]
      exact (tOf_eq (y.keep (fun c o e _ => (kk c o e).2) _ _)).symm
    · have e' : some o = some (seqObj "list" its.toArray 0) := e.symm.trans hb
      cases e'
      intro c
      exact absurd (Value.type.inj c) (by decide)
  · obtain ⟨v1, d1⟩ := sorted_out I hd rv h1 h2.perm
    obtain ⟨n, hn⟩ := sortedAll_at s.heap its out.toArray
    have hdz : s.heap.objs.size ≤ s.heap.objs.size + 1 := Nat.le_succ _
    refine ⟨.ref (s.heap.objs.size + 1), upd H _ (.lst (out.map backV)), I.laid (t' := s.toks) (fun b o e => sortedAll_old e) hdz ⟨?_, out, n, v1, hn⟩, rfl, q _ _ (I.hok.fresh hdz) d1⟩
    rw [List.length_map, h2.len]
    exact hzi
end
section
variable {K : PySem.W.Frag}
theorem cl_sortedTr {ts : List T} (hf : ∀ t ∈ ts, full t = true) (hd : T.depths ts ≤ 60) : CL K (rSortTr K) [.list (ts.map T.data)] ((T.sort ts).map T.data) := fun H Hm xs s hx Q q => by
  obtain ⟨v, rfl, h⟩ := dps1 hx
  obtain ⟨a, ys, rfl, hs, ha⟩ := dp_lst h
  refine ⟨a, ys, ts, rfl, ex_l s hs, ha.mono s, hf, hd, fun zs p hp hz => ?_⟩
  exact q p zs _ Hm (Gr.priv s hp) hp (fresh_back s hp) upd_same (hz Hm s ha)
end
end LM

set_option Elab.async false
set_option linter.all false
set_option maxRecDepth 100000
set_option maxHeartbeats 3200000
/-! LmS: sets of trees (tuples of tuples of unlike shape, of depth at most 8): set(..), sorted(set). -/
namespace LM
open PySem PySem.Spec PyProof.Rows L2 Evl

/-! ### a tree as a key -/
mutual
def nk : T → NestedKey
  | .n ts => .tup (nks ts)
def nks : List T → List NestedKey
  | [] => []
  | t :: ts => nk t :: nks ts
end
mutual
theorem nk_depth : ∀ t : T, (nk t).depth = t.depth
  | .n ts => by rw [nk, NestedKey.depth, T.depth, nks_depth ts]
theorem nks_depth : ∀ ts : List T, NestedKey.depthAll (nks ts) = T.depths ts
  | [] => by rw [nks, NestedKey.depthAll, T.depths]
  | t :: ts => by rw [nks, NestedKey.depthAll, T.depths, nk_depth t, nks_depth ts]
end
mutual
theorem nk_is {h : Heap} : ∀ (t : T) (v : Value), IsT h t v → NestedIs h (nk t) v
  | .n ts, _, x => by
    cases x with
    | n h1 h2 h3 h4 => rw [nk]; exact .tup h1 h2 h3 (nks_is ts _ h4)
theorem nks_is {h : Heap} : ∀ (ts : List T) (vs : List Value), IsTs h ts vs → NestedAll h (nks ts) vs
  | [], _, x => by cases x; exact .nil
  | t :: ts, _, x => by
    cases x with
    | cons h1 h2 => rw [nks]; exact .cons (nk_is t _ h1) (nks_is ts _ h2)
end
/-- hash(t) -/
def hT (w : World) (t : T) : Int := (nk t).hash w

section
variable {P : Program} {w : World} {A : Around} {E : Value → Shared → Prop} {s : Shared}
theorem isT_ref {h : Heap} {t : T} {v : Value} (x : IsT h t v) : ∃ b, v = .ref b := by cases x; exact ⟨_, rfl⟩
theorem isT_ty {s : Shared} {t : T} {b : Addr} (x : IsT s.heap t (.ref b)) : s.TypeIs (.ref b) "tuple" := by
  cases x with
  | n h1 h2 _ _ => exact ⟨_, h1, h2⟩
/-! ### what a set asks of its elements -/
/-- a walk over the items of a tuple that stops at nothing -/
theorem forAll {β : Type} {g : β → Prop} {f : Value → β → Sem (ForInStep β)} {ok : Value → Prop} (hf : ∀ v (Q : ForInStep β → Shared → Prop), ok v → (∀ r : β, g r → Q (.yield r) s) → ∀ r0 : β, g r0 → wpAny (model P w) A (f v r0) Q E s) {vs : List Value} (h : ∀ v ∈ vs, ok v) {Q : β → Shared → Prop}
    (q : ∀ r : β, g r → Q r s) {r0 : β} (h0 : g r0) : wpAny (model P w) A (forIn vs r0 f) Q E s := by
  refine wpAny_forIn_list _ (fun rest r s' => g r ∧ s' = s ∧ ∀ v ∈ rest, ok v) _ ?_ ?_ _ _ ⟨h0, rfl, h⟩
  · rintro v rest r s' ⟨hr, e, ha⟩
    subst e
    exact hf v _ (ha v List.mem_cons_self) (fun r' hr' => ⟨hr', rfl, fun u hu => ha u (List.mem_cons_of_mem _ hu)⟩) r hr
  · rintro r s' ⟨hr, e, _⟩
    subst e
    exact q r hr
theorem class_T : ∀ (n : Nat) (t : T) (v : Value) (Q : Bool → Shared → Prop), IsT s.heap t v → t.depth ≤ n → Q false s → wpAny (model P w) A (ofAClassStatement n v) Q E s
  | 0, .n ts, _, _, _, hd, _ => by rw [T.depth] at hd; omega
  | n + 1, .n ts, v, Q, x, hd, q => by
    obtain ⟨b, rfl⟩ := isT_ref x
    have ty := isT_ty x
    cases x with
    | n h1 h2 h3 h4 =>
      unfold ofAClassStatement
      refine wpAny_bind (wpAny_typeOf ty ?_)
      dsimp only
      have e : (("tuple" : String) == "tuple") = true := by decide
      simp only [e, if_true, Bool.not_true, Bool.false_eq_true, if_false]
      try refine wpAny_bind (wpAny_pure ?_)
      try simp only [Bool.not_true, Bool.false_eq_true, if_false]
      show wpAny _ _ (seqItems? (.ref b) >>= _) _ _ s
      refine wpAny_bind (wpAny_seqItems h1 h3 ?_)
      dsimp only
      refine wpAny_bind ?_
      show wpAny _ _ (forIn _ _ _) _ _ s
      rw [← Array.forIn_toList]
      refine forAll (g := fun r => r.1 = none) (ok := fun v => ∃ t ∈ ts, IsT s.heap t v) (fun v Q ⟨t, ht, y⟩ k r0 _ => ?_) (fun v hv => isTs_all h4 v hv) (fun r hr => ?_) rfl
      · refine wpAny_bind (class_T n t v _ y ?_ ?_)
        · have := T.depth_mem ht
          rw [T.depth] at hd; omega
        · simp only [Bool.false_eq_true, if_false]
          exact wpAny_pure (k _ rfl)
      · obtain ⟨r1, r2⟩ := r
        simp only at hr
        subst hr
        exact wpAny_pure q
/-- whether a tree's hash is by value: some answer -/
theorem byval_any : ∀ (n : Nat) (t : T) (v : Value) (Q : Bool → Shared → Prop), IsT s.heap t v → (∀ b, Q b s) → wpAny (model P w) A (hashByValue n v) Q E s
  | 0, _, _, _, x, q => by
    obtain ⟨b, rfl⟩ := isT_ref x
    exact wpAny_pure (q false)
  | n + 1, .n ts, v, Q, x, q => by
    obtain ⟨b, rfl⟩ := isT_ref x
    have ty := isT_ty x
    cases x with
    | n h1 h2 h3 h4 =>
      unfold hashByValue
      refine wpAny_bind (wpAny_specialOf ty F.slot_tuple_hash.lookup ?_)
      show wpAny _ _ (seqItems? (.ref b) >>= _) _ _ s
      refine wpAny_bind (wpAny_seqItems h1 h3 ?_)
      refine wpAny_bind ?_
      show wpAny _ _ (forIn _ _ _) _ _ s
      rw [← Array.forIn_toList]
      refine wpAny_forIn_list _ (fun rest r s' => s' = s ∧ ∀ v ∈ rest, ∃ t ∈ ts, IsT s.heap t v) _ ?_ ?_ _ _ ⟨rfl, fun v hv => isTs_all h4 v hv⟩
      · rintro u rest r s' ⟨e, ha⟩
        have e := e.symm
        subst e
        obtain ⟨t, ht, y⟩ := ha u List.mem_cons_self
        refine wpAny_bind (byval_any n t u _ y fun b2 => ?_)
        cases b2 with
        | false =>
          simp only [Bool.not_false, if_true]
          exact wpAny_pure (wpAny_pure (q false))
        | true =>
          simp only [Bool.not_true, Bool.false_eq_true, if_false]
          exact wpAny_pure ⟨rfl, fun v hv => ha v (List.mem_cons_of_mem _ hv)⟩
      · rintro ⟨r1, r2⟩ s' ⟨e, _⟩
        have e := e.symm
        subst e
        cases r1 with
        | none => exact wpAny_pure (q true)
        | some b3 => exact wpAny_pure (q b3)
theorem quiet_T {t : T} {v : Value} {Q : Bool → Shared → Prop} (x : IsT s.heap t v) (hd : t.depth ≤ 8) (q : Q true s) : wpAny (model P w) A (eqIsQuiet 8 v) Q E s :=
  quiet_key (nk t) v 8 s (nk_is t v x) (by rw [nk_depth]; exact hd) A E Q q
theorem seen_T {t : T} {b : Addr} {Q : Bool → Shared → Prop} (x : IsT s.heap t (.ref b)) (hd : t.depth ≤ 8) {ys : List Value} (hy : ∀ y ∈ ys, ∃ u : T, IsT s.heap u y ∧ u.depth ≤ 8) (q : Q false s) : wpAny (model P w) A (searchCouldBeSeen (.ref b) ys) Q E s := by
  unfold searchCouldBeSeen
  refine wpAny_bind ?_
  refine forAll (g := fun r => r.1 = none) (ok := fun y => ∃ u : T, IsT s.heap u y ∧ u.depth ≤ 8) (fun y Q ⟨u, y1, y2⟩ k r0 h0 => ?_) hy (fun r hr => ?_) rfl
  · obtain ⟨c, rfl⟩ := isT_ref y1
    dsimp only
    by_cases hv : (b == c || (carriedByValue (.ref b) && carriedByValue (.ref c))) = true
    · refine wp_if_pos hv ?_
      exact wpAny_pure (k _ rfl)
    · refine wp_if_neg hv ?_
      refine wpAny_bind (quiet_T x hd ?_)
      simp only [Bool.not_true, Bool.false_eq_true, if_false]
      refine wpAny_bind (quiet_T y1 y2 ?_)
      simp only [Bool.not_true, Bool.false_eq_true, if_false]
      refine wpAny_bind (class_T 8 t _ _ x hd ?_)
      simp only [Bool.false_eq_true, if_false]
      refine wpAny_bind (class_T 8 u _ _ y1 y2 ?_)
      simp only [Bool.false_eq_true, if_false]
      exact wpAny_pure (k _ rfl)
  · obtain ⟨r1, r2⟩ := r
    simp only at hr
    subst hr
    exact wpAny_pure q
theorem hash_T {t : T} {v : Value} {Q : Int → Shared → Prop} (x : IsT s.heap t v) (hu : A.units + t.depth < cLine) (q : Q (hT w t) { s with toks := s.toks + (nk t).draws }) : wpAny (model P w) A (pyHash v) Q E s :=
  pyHash_key (nk t) v A s Q (nk_is t v x) (by rw [nk_depth]; exact hu) q
end

/-! ### a set that holds trees: at each row the address and the tree -/
def ent (w : World) (p : Addr × T) : Int × Value := (hT w p.2, .ref p.1)
structure SetTr (w : World) (h : Heap) (a : Addr) (L : List (Addr × T)) (es : Array (Int × Value)) (ep : Nat) (t : SetTable) : Prop where
  ob : ∃ o, h.get? a = some o ∧ o.ExactSet ∧ o.data = .set es ep t
  rows : es.toList = L.map (ent w)
  tab : TabOk t (L.map fun p => hT w p.2)
  nd : (L.map (·.2)).Nodup
  tup : ∀ p ∈ L, IsT h p.2 (.ref p.1) ∧ p.2.depth ≤ 30
  ld : w.params.followText "set-order" = true ∨ t.led = true
  room : L.length * 5 < t.mask * 3
  few : L.length < 64
section
variable {P : Program} {w : World} {A : Around} {E : Value → Shared → Prop} {s : Shared} {a : Addr} {L : List (Addr × T)} {es : Array (Int × Value)} {ep : Nat} {t : SetTable}
theorem rows_len (h : es.toList = L.map (ent w)) : es.size = L.length := by
  rw [← Array.length_toList, h, List.length_map]
theorem SetTr.sz (R : SetTr w s.heap a L es ep t) : t.place.size = L.length := by
  have h := R.tab.sz
  rwa [List.length_map] at h
theorem SetTr.ok (R : SetTr w s.heap a L es ep t) : t.fits es.size = true := by
  have h1 := R.sz
  have h2 := rows_len R.rows
  have h3 := R.room
  unfold SetTable.fits SetTable.fill
  rw [R.tab.dm, Bool.and_eq_true, beq_iff_eq, decide_eq_true_eq]
  exact ⟨by omega, by show t.place.size + 0 ≤ t.mask; omega⟩
theorem SetTr.row (R : SetTr w s.heap a L es ep t) {i : Nat} {p : Addr × T} (h : L[i]? = some p) : es[i]? = some (ent w p) := by
  rw [← Array.getElem?_toList, R.rows, List.getElem?_map, h]; rfl
theorem SetTr.odd (R : SetTr w s.heap a L es ep t) : ¬ t.gaveWay = true := by
  have h := mask_odd R.tab.mok
  unfold SetTable.gaveWay
  rw [h]; decide
theorem nth_free (m : Nat) : ∀ (k : Nat) (p : SetTable.Probe), p.dummy = none → (nth m p k).dummy = none
  | 0, _, h => h
  | k + 1, p, h => nth_free m k (adv m p) (by unfold adv; split <;> exact h)
/-- the probe's state behind c steps -/
abbrev stp (t : SetTable) (H : Int) (c : Nat) : SetTable.Probe := nth t.mask (runAt t.mask (SetTable.bits H % (t.mask + 1)) (SetTable.bits H)) c
abbrev hAt (es : Array (Int × Value)) (i : Nat) : Int := (es[i]?.map (·.1)).getD 0
/-- k beside the stored ones: all quiet in being asked, or none of k's hash -/
def Md (w : World) (k : T) (L : List (Addr × T)) : Prop := (k.depth ≤ 8 ∧ ∀ p ∈ L, p.2.depth ≤ 8) ∨ ∀ p ∈ L, hT w p.2 ≠ hT w k
/-- what is looked at of a candidate -/
theorem cand_T (R : SetTr w s.heap a L es ep t) {x : Addr} {k : T} (hx : IsT s.heap k (.ref x)) (hk : k.depth ≤ 30) (hu : A.units + 30 < cLine) {i j f : Nat} {nx : SetTable.Probe} {p : Addr × T} (hp : L[i]? = some p) (hi : t.place.toList[i]? = some j) {Q : SetFound → Shared → Prop}
    (same : p.2 = k → Q (.there none) s) (other : p.2 ≠ k → wpAny (model P w) A (setSearchFrom a (.ref x) (hT w k) true f (some nx)) Q E s) : wpAny (model P w) A (searchRest a (.ref x) (hT w k) true f es t j i nx) Q E s := by
  obtain ⟨o, ho, hex, hd⟩ := R.ob
  obtain ⟨p1, p2⟩ := R.tup p (List.mem_of_getElem? hp)
  unfold searchRest
  rw [R.row hp]
  dsimp only [ent]
  refine wpAny_bind (wpAny_holding (eqAt_T p1 hx (by omega) P w E _ ?_))
  refine wpAny_bind (wpAny_setState_of ho hd R.ok ?_)
  dsimp only
  by_cases e : p.2 = k
  · exact wp_if_pos (by simp [e]) (wpAny_pure (same e))
  · refine wp_if_neg (by simp [e]) ?_
    try refine wpAny_bind (wpAny_pure ?_)
    rw [sameMem]
    dsimp only
    have sl : t.slot j = .live i := slot_live R.tab.ris hi
    have rw0 := R.row hp
    unfold ent at rw0
    simp only [if_true, sl, rw0]
    refine wpAny_bind (wpAny_isSame_ref_self (wpAny_bind (wpAny_pure ?_)))
    simp only [if_true]
    exact wp_if_neg (by simp [e]) (other e)
/-- the search for k from step c on, K the first free step -/
theorem find_T (R : SetTr w s.heap a L es ep t) {x : Addr} {k : T} (hx : IsT s.heap k (.ref x)) (md : Md w k L) (hk : k.depth ≤ 30) (hu : A.units + 30 < cLine) {K : Nat} (hf : K < 10 * SetTable.turns t.mask) (hK : way t.mask (hT w k) K ∉ t.place.toList) (hb : ∀ c, c < K → way t.mask (hT w k) c ∈ t.place.toList)
    {Q : SetFound → Shared → Prop} (yes : k ∈ L.map (·.2) → Q (.there none) s) (no : k ∉ L.map (·.2) → Q (.free (way t.mask (hT w k) K) false) s) : ∀ (f c : Nat) (stand : Option SetTable.Probe), stand.getD (t.probeStart (hT w k)) = stp t (hT w k) c → c ≤ K → K - c < f →
      (∀ (i : Nat) (p : Addr × T), L[i]? = some p → p.2 = k → ∃ c', c ≤ c' ∧ c' < K ∧ t.place.toList[i]? = some (way t.mask (hT w k) c')) → wpAny (model P w) A (setSearchFrom a (.ref x) (hT w k) true f stand) Q E s
  | 0, _, _, _, _, z, _ => absurd z (Nat.not_lt_zero _)
  | f + 1, c, stand, e0, hc, hfu, left => by
    obtain ⟨o, ho, hex, hd⟩ := R.ob
    rw [setSearchFrom_succ]
    refine wpAny_bind (wpAny_setState_of ho hd R.ok ?_)
    dsimp only
    refine wp_if_neg R.odd ?_
    try refine wpAny_bind (wpAny_pure ?_)
    have go : ∀ q, nth t.mask (stp t (hT w k) c) q = stp t (hT w k) (c + q) := fun q => (nth_add t.mask c _ q).symm
    have goj : ∀ q, (nth t.mask (stp t (hT w k) c) q).j = way t.mask (hT w k) (c + q) := fun q => congrArg SetTable.Probe.j (go q)
    have end0 : c + (K - c) = K := by omega
    have hashes : ∀ (i : Nat) (p : Addr × T), L[i]? = some p → (hAt es) i = hT w p.2 := fun i p hp => by
      show (es[i]?.map (·.1)).getD 0 = _
      rw [R.row hp]; rfl
    have passed : ∀ (n : Nat), (∀ (k' i' : Nat), k' < n → t.place.toList[i']? = some (nth t.mask (stp t (hT w k) c) k').j → (hAt es) i' ≠ hT w k) → ∀ (i : Nat) (p : Addr × T) (c' : Nat), L[i]? = some p → p.2 = k → c ≤ c' → t.place.toList[i]? = some (way t.mask (hT w k) c') → c + n ≤ c' := fun n h i p c' hp hpk h1 h2 =>
      Classical.byContradiction fun z => h (c' - c) i (by omega) (by rw [goj, show c + (c' - c) = c' by omega]; exact h2) ((hashes i p hp).trans (congrArg (hT w) hpk))
    rcases go_spec t R.tab.ris R.tab.dm (hAt es) (hT w k) (10 * SetTable.turns t.mask) (K - c) (stp t (hT w k) c) (nth_free _ c _ rfl) (by omega) (fun q hq => by rw [goj]; exact hb _ (by omega)) (by rw [goj, end0]; exact hK) with ⟨q, i, hq, hi, heq, before, met⟩ | ⟨before, met⟩
    · have met' : t.probe (hAt es) (hT w k) (stand.getD (t.probeStart (hT w k))) = some (.candidate (way t.mask (hT w k) (c + q)) i (stp t (hT w k) (c + (q + 1)))) := by
        rw [e0, ← goj, ← go]; exact met
      rw [met']
      dsimp only
      rw [goj] at hi
      have li : i < L.length := by
        have h1 := (List.getElem?_eq_some_iff.mp hi).1
        rw [Array.length_toList, R.sz] at h1
        exact h1
      obtain ⟨p, hp⟩ : ∃ p, L[i]? = some p := ⟨_, List.getElem?_eq_getElem li⟩
      have rest : wpAny (model P w) A (searchRest a (.ref x) (hT w k) true f es t (way t.mask (hT w k) (c + q)) i (stp t (hT w k) (c + (q + 1)))) Q E s := by
        refine cand_T R hx hk hu hp hi (fun e => yes (List.mem_map.mpr ⟨p, List.mem_of_getElem? hp, e⟩)) fun ne => find_T R hx md hk hu hf hK hb yes no f (c + (q + 1)) _ rfl (by omega) (by omega) fun i2 p2 h2 e2 => ?_
        obtain ⟨c', a1, a2, a3⟩ := left i2 p2 h2 e2
        have a4 := passed q before i2 p2 c' h2 e2 a1 a3
        refine ⟨c', ?_, a2, a3⟩
        rcases Nat.eq_or_lt_of_le a4 with z | z
        · exfalso
          rw [← z] at a3
          have s1 := slot_live R.tab.ris a3
          have s2 := slot_live R.tab.ris hi
          rw [s1] at s2
          injection s2 with s2
          rw [s2, hp] at h2
          exact ne ((congrArg Prod.snd (Option.some.inj h2)).trans e2)
        · omega
      by_cases hl : t.led = true
      · refine wp_if_neg (by simp [hl]) ?_
        try refine wpAny_bind (wpAny_pure ?_)
        exact rest
      · refine wp_if_pos (by simp [hl]) ?_
        rcases md with ⟨hk8, hL8⟩ | hne
        case inr => exact absurd ((hashes i p hp).symm.trans heq) (hne p (List.mem_of_getElem? hp))
        refine wpAny_bind (seen_T hx hk8 (fun y hy => ?_) ?_)
        · obtain ⟨e, he, ey⟩ := List.mem_map.mp hy
          have hm : e ∈ es := (by simpa using he : e ∈ es ∧ e.1 = hT w k).1
          rw [← Array.mem_toList_iff, R.rows] at hm
          obtain ⟨p2, hp2, e2⟩ := List.mem_map.mp hm
          rw [← ey, ← e2]
          exact ⟨p2.2, (R.tup p2 hp2).1, hL8 p2 hp2⟩
        · refine wp_if_neg (by decide) ?_
          try refine wpAny_bind (wpAny_pure ?_)
          exact rest
    · have met' : t.probe (hAt es) (hT w k) (stand.getD (t.probeStart (hT w k))) = some (.empty (way t.mask (hT w k) K) none) := by
        have e2 := goj (K - c)
        rw [end0] at e2
        rw [e0, ← e2]; exact met
      rw [met']
      dsimp only
      refine wpAny_pure (no fun hm => ?_)
      obtain ⟨p, hpm, hpk⟩ := List.mem_map.mp hm
      obtain ⟨i, hi⟩ := List.mem_iff_getElem?.mp hpm
      obtain ⟨c', a1, a2, a3⟩ := left i p hi hpk
      have := passed (K - c) before i p c' hi hpk a1 a3
      omega
theorem search_T (R : SetTr w s.heap a L es ep t) {x : Addr} {k : T} (hx : IsT s.heap k (.ref x)) (md : Md w k L) (hk : k.depth ≤ 30) (hu : A.units + 30 < cLine) {Q : SetFound → Shared → Prop} (yes : k ∈ L.map (·.2) → Q (.there none) s)
    (no : ∀ K, k ∉ L.map (·.2) → way t.mask (hT w k) K ∉ t.place.toList → (∀ c, c < K → way t.mask (hT w k) c ∈ t.place.toList) → Q (.free (way t.mask (hT w k) K) false) s) : wpAny (model P w) A (setSearch a (.ref x) (hT w k) true) Q E s := by
  have hr := R.room
  obtain ⟨K, h1, h2, h3⟩ := R.tab.first (by rw [List.length_map]; omega) (hT w k)
  have big : 10 * SetTable.turns t.mask ≤ 1420 := by
    unfold SetTable.turns
    rcases R.tab.mok with e | e | e <;> omega
  unfold setSearch
  refine find_T R hx md hk hu h1 h2 h3 yes (fun n => no K n h2 h3) 100000 0 none rfl (Nat.zero_le _) (by omega) fun i p hp hpk => ?_
  have hi : (L.map fun p => hT w p.2)[i]? = some (hT w k) := by rw [List.getElem?_map, hp, ← hpk]; rfl
  have li : i < t.place.toList.length := by rw [Array.length_toList, R.sz]; exact (List.getElem?_eq_some_iff.mp hp).1
  obtain ⟨c, hc, e⟩ := R.tab.before h2 hi (List.getElem?_eq_getElem li)
  exact ⟨c, Nat.zero_le _, hc, by rw [List.getElem?_eq_getElem li, e]⟩
end

/-! ### adding -/
section
variable {P : Program} {w : World} {A : Around} {E : Value → Shared → Prop} {s : Shared} {a : Addr} {L : List (Addr × T)} {es : Array (Int × Value)} {ep : Nat} {t : SetTable}
/-- the trees stay when the set changes -/
theorem tree_same {h h' : Heap} {k : T} {v : Value} {o : Obj} (x : IsT h k v) (ho : h.get? a = some o) (hc : o.cls = .type "set") (sb : Heap.SameBut a h h') : IsT h' k v :=
  x.keep (fun b ob e hb => by
    have : b ≠ a := fun z => by
      subst z
      rw [ho] at e
      cases e
      rw [hc] at hb
      exact absurd (Value.type.inj hb) (by decide)
    exact (sb.2 b this).trans e) k v
theorem range_get {α : Type} : ∀ l : List α, (List.range l.length).filterMap (fun i => l[i]?) = l
  | [] => rfl
  | x :: l => by
    rw [List.length_cons, List.range_succ_eq_map, List.filterMap_cons_some (f := fun i => (x :: l)[i]?) (a := 0) (b := x) rfl, List.filterMap_map]
    congr 1
    exact range_get l
theorem order_T (L : List (Addr × T)) (es : Array (Int × Value)) (order : Array Nat) (hr : es.toList = L.map (ent w)) (hp : order.toList.Perm (List.range L.length)) :
    ∃ L2 : List (Addr × T), (order.filterMap (es[·]?)).toList = L2.map (ent w) ∧ L2.Perm L ∧ (L2.map fun p => hT w p.2) = order.toList.map fun i => (es.map (·.1)).getD i 0 := by
  have at0 : ∀ i : Nat, es[i]? = (L[i]?).map (ent w) := fun i => by rw [← Array.getElem?_toList, hr, List.getElem?_map]
  refine ⟨order.toList.filterMap (fun i => L[i]?), ?_, ?_, ?_⟩
  · have e1 : (order.filterMap (es[·]?)).toList = order.toList.filterMap (fun i => es[i]?) := by first | exact Array.toList_filterMap | simp
    rw [e1, List.map_filterMap]
    exact congrArg (fun f => List.filterMap f order.toList) (funext at0)
  · have h := hp.filterMap (fun i => L[i]?)
    rwa [range_get] at h
  · have inr : ∀ i ∈ order.toList, i < L.length := fun i hi => List.mem_range.mp (hp.mem_iff.mp hi)
    clear hp
    generalize order.toList = l at inr
    induction l with
    | nil => rfl
    | cons i l ih =>
      have hi := inr i List.mem_cons_self
      have g := List.getElem?_eq_getElem hi
      rw [List.filterMap_cons_some g, List.map_cons, List.map_cons, ih fun j hj => inr j (List.mem_cons_of_mem _ hj)]
      congr 1
      have e5 : (es.map (·.1))[i]? = some (hT w L[i].2) := by rw [Array.getElem?_map, at0, g]; rfl
      simp [Array.getD_eq_getD_getElem?, e5]
/-- the table laid anew -/
theorem relay_T {o : Obj} (ho : s.heap.get? a = some o) (hex : o.ExactSet) (hd : o.data = .set es ep t) (hr : es.toList = L.map (ent w)) (hsz : t.place.size = es.size) (hdm : t.dummies = #[]) (hfl : es.size ≤ t.mask) (nd : (L.map (·.2)).Nodup)
    (tup : ∀ p ∈ L, IsT s.heap p.2 (.ref p.1) ∧ p.2.depth ≤ 30) (ld : w.params.followText "set-order" = true ∨ t.led = true) (few : L.length < 64) {wanted M : Nat} (hw : SetTable.sizeAbove wanted - 1 = M) (hM : MaskOk M) (hw2 : SetTable.sizeAbove wanted ≤ 128) (hn : L.length * 5 < M * 3) {Q : Unit → Shared → Prop}
    (q : ∀ h' L' es' ep' t', Heap.SameBut a s.heap h' → SetTr w h' a L' es' ep' t' → L'.Perm L → Q () { s with heap := h' }) : wpAny (model P w) A (setRelay a wanted) Q E s := by
  have l0 := rows_len hr
  have fit : t.fits es.size = true := by
    unfold SetTable.fits SetTable.fill
    rw [hdm, Bool.and_eq_true, beq_iff_eq, decide_eq_true_eq]
    exact ⟨hsz, by show t.place.size + 0 ≤ t.mask; omega⟩
  obtain ⟨t', order, e, hp, tb, em, el, ep', ed⟩ := relaid_ok t (hs := es.map (·.1)) (wanted := wanted) hw hM (by rw [Array.size_map, l0]; omega)
  rw [Array.size_map, l0] at hp
  obtain ⟨L2, r1, r2, r3⟩ := order_T L es order hr hp
  rw [← r3] at tb
  have z := rows_len r1
  have z2 : (order.filterMap (es[·]?)).size = es.size := by rw [z, r2.length_eq, l0]
  rw [setRelay_eq]
  refine wpAny_bind (wpAny_setState_of ho hd fit ?_)
  dsimp only
  refine wp_if_neg (by rw [sizeLine_eq]; omega) ?_
  try refine wpAny_bind (wpAny_pure ?_)
  rw [e]
  dsimp only
  refine wpAny_bind ?_
  refine wp_if_neg (by rw [z2]; simp) ?_
  try refine wpAny_bind (wpAny_pure ?_)
  refine wpAny_pure ?_
  dsimp only
  refine wpAny_storeSet_of ho hd ?_ (by rw [z2, l0, sizeLine_eq]; omega)
  have sb : Heap.SameBut a s.heap (s.heap.update a (Obj.putSet (order.filterMap (es[·]?)) t')) := Heap.SameBut.update ..
  refine q _ L2 (order.filterMap (es[·]?)) (ep + 1) t' sb ⟨⟨_, store_at ho hd, ⟨hex.1, hex.2.1, hex.2.2⟩, rfl⟩, r1, tb, (r2.map (·.2)).nodup_iff.mpr nd, fun p hm => ?_, by rw [el]; exact ld, by rw [r2.length_eq, em]; exact hn, by rw [r2.length_eq]; exact few⟩ r2
  obtain ⟨q1, q2⟩ := tup p (r2.mem_iff.mp hm)
  exact ⟨tree_same q1 ho hex.1 sb, q2⟩
theorem put_rows {α : Type} (l : List α) (p : Nat) (x : α) : (l.take p ++ x :: l.drop p).Perm (x :: l) := by
  have h : (l.take p ++ x :: l.drop p).Perm (x :: (l.take p ++ l.drop p)) := List.perm_middle
  rwa [List.take_append_drop] at h
/-- is the table still by value -/
theorem byv_T {t1 : SetTable} {x : Addr} {k : T} (hx : IsT s.heap k (.ref x)) {Q : Bool → Shared → Prop} (q : ∀ b, Q b s) : wpAny (model P w) A (if t1.plain = true then hashByValue 8 (.ref x) else pure true) Q E s := by
  split
  · exact byval_any 8 k _ _ hx q
  · exact wpAny_pure (q true)
theorem tab_if {t1 : SetTable} {hs : List Int} {b : Bool} (h : TabOk t1 hs) : TabOk (if b = true then t1 else { t1 with plain := false }) hs := by
  cases b with
  | true => exact h
  | false => exact ⟨h.ris, h.dm, h.sz, h.mok, h.bd, h.reach⟩
/-- one more -/
theorem add_T (R : SetTr w s.heap a L es ep t) {x : Addr} {k : T} (hx : IsT s.heap k (.ref x)) (md : Md w k L) (hk : k.depth ≤ 30) (hu : A.units + 30 < cLine) (hfew : L.length + 1 < 64) {Q : Bool → Shared → Prop}
    (q : ∀ b h' L' es' ep' t', Heap.SameBut a s.heap h' → SetTr w h' a L' es' ep' t' → (k ∈ L.map (·.2) → L' = L) → (k ∉ L.map (·.2) → L'.Perm ((x, k) :: L)) → Q b { s with heap := h' }) : wpAny (model P w) A (setAddHashed a (.ref x) (hT w k)) Q E s := by
  obtain ⟨o, ho, hex, hd⟩ := R.ob
  have l0 := rows_len R.rows
  have hr := R.room
  unfold setAddHashed
  refine wpAny_holding ?_
  rw [show (100000 : Nat) = 99999 + 1 from rfl, setAddHashedIn_succ]
  refine wpAny_bind (wpAny_setState_of ho hd R.ok ?_)
  dsimp only
  refine wp_if_neg (by simp [byScan, Value.scannable]) ?_
  try refine wpAny_bind (wpAny_pure ?_)
  refine wpAny_bind (search_T R hx md hk hu (fun hm => ?_) fun K hm hK hb => ?_)
  · dsimp only
    exact wpAny_pure (q false s.heap L es ep t (Heap.SameBut.refl a s.heap) R (fun _ => rfl) fun z => absurd hm z)
  · dsimp only
    refine wpAny_bind (wpAny_setState_of ho hd R.ok ?_)
    dsimp only
    obtain ⟨q1, q2, q3, q4, q5, q6, q7, q8, q9⟩ := R.tab.put hK hb
    generalize t.put (way t.mask (hT w k) K) = pt at q1 q3 q4 q5 q6 q7 q8 q9 ⊢
    obtain ⟨t1, p⟩ := pt
    dsimp only at q1 q3 q4 q5 q6 q7 q8 q9 ⊢
    subst q1
    by_cases hpl : t1.plain = true
    · refine wp_if_pos hpl (wpAny_bind (byval_any 8 k _ _ hx fun b2 => ?_))
      replace q3 := tab_if (b := b2) q3
      have q4' : (if b2 = true then t1 else { t1 with plain := false }).mask = t.mask := by cases b2 <;> exact q4
      have q5' : (if b2 = true then t1 else { t1 with plain := false }).led = t.led := by cases b2 <;> exact q5
      have q9' : (if b2 = true then t1 else { t1 with plain := false }).fill = (L.map fun p => hT w p.2).length + 1 := by cases b2 <;> exact q9
      generalize (if b2 = true then t1 else { t1 with plain := false }) = t2 at q3 q4' q5' q9' ⊢
      clear q4 q5 q6 q7 q8 q9 hpl
      have q4 := q4'
      have q5 := q5'
      have q9 := q9'
      clear q4' q5' q9'
      obtain ⟨t1, et⟩ : ∃ t1, t1 = t2 := ⟨_, rfl⟩
      subst et
      generalize hpp : SetTable.below t.place (way t.mask (hT w k) K) = p at q2 q3 ⊢
      have row1 : (SetTable.insertAt es p (hT w k, Value.ref x)).toList = (L.take p ++ (x, k) :: L.drop p).map (ent w) := by
        rw [SetTable.toList_insertAt, R.rows, List.map_append, List.map_cons, List.map_take, List.map_drop]; rfl
      have hs1 : (L.take p ++ (x, k) :: L.drop p).map (fun p => hT w p.2) = (L.map fun p => hT w p.2).take p ++ hT w k :: (L.map fun p => hT w p.2).drop p := by
        rw [List.map_append, List.map_cons, List.map_take, List.map_drop]
      rw [← hs1] at q3
      have pm := put_rows L p (x, k)
      have n1 : (L.take p ++ (x, k) :: L.drop p).length = L.length + 1 := pm.length_eq
      generalize L.take p ++ (x, k) :: L.drop p = L1 at pm n1 q3 row1
      have z1 := rows_len row1
      rw [n1] at z1
      generalize SetTable.insertAt es p (hT w k, Value.ref x) = es1 at row1 z1 ⊢
      have nd1 : (L1.map (·.2)).Nodup := by
        refine (pm.map (·.2)).nodup_iff.mpr ?_
        rw [List.map_cons]
        exact List.nodup_cons.mpr ⟨hm, R.nd⟩
      refine wpAny_bind (wpAny_storeSet_of ho hd ?_ (by rw [z1, sizeLine_eq]; omega))
      have sb : Heap.SameBut a s.heap (s.heap.update a (Obj.putSet es1 t1)) := Heap.SameBut.update ..
      have ho1 := store_at (es' := es1) (t' := t1) ho hd
      generalize s.heap.update a (Obj.putSet es1 t1) = h1 at sb ho1 ⊢
      have tup1 : ∀ p ∈ L1, IsT h1 p.2 (.ref p.1) ∧ p.2.depth ≤ 30 := fun p hp => by
        rcases List.mem_cons.mp (pm.mem_iff.mp hp) with e | hp
        · rw [e]; exact ⟨tree_same hx ho hex.1 sb, hk⟩
        · exact ⟨tree_same (R.tup p hp).1 ho hex.1 sb, (R.tup p hp).2⟩
      have ld1 : w.params.followText "set-order" = true ∨ t1.led = true := by rw [q5]; exact R.ld
      rw [List.length_map] at q9
      by_cases full : t1.tooFull = true
      · first
          | (refine wpAny_bind ?_; refine wp_if_pos (by simp [full]) ?_)
          | (refine wp_if_pos (by simp [full]) ?_; refine wpAny_bind ?_)
        have f1 : (L.length + 1) * 5 ≥ t1.mask * 3 := by
          unfold SetTable.tooFull at full
          rw [decide_eq_true_eq, q9] at full
          exact full
        rw [l0]
        have z2 : t1.place.size = es1.size := by
          have h := q3.sz
          rw [List.length_map, n1] at h
          rw [h, z1]
        have two : (t.mask = 7 ∧ L.length = 4) ∨ (t.mask = 31 ∧ L.length = 18) := by
          rcases R.tab.mok with e | e | e
          · left; rw [q4, e] at f1; rw [e] at hr; exact ⟨e, by omega⟩
          · right; rw [q4, e] at f1; rw [e] at hr; exact ⟨e, by omega⟩
          · exfalso; rw [q4, e] at f1; omega
        have more : ∀ M, SetTable.sizeAbove (SetTable.grown (L.length + 1)) - 1 = M → MaskOk M → SetTable.sizeAbove (SetTable.grown (L.length + 1)) ≤ 128 → (L.length + 1) * 5 < M * 3 →
            wpAny (model P w) A (setRelay a (SetTable.grown (L.length + 1))) (fun _ s' => wpAny (model P w) A (pure true) Q E s') E { s with heap := h1 } := fun M b1 b2 b3 b4 =>
          relay_T (s := { s with heap := h1 }) ho1 ⟨hex.1, hex.2.1, hex.2.2⟩ rfl row1 z2 q3.dm (by rw [z1, q4]; rcases two with ⟨e, e2⟩ | ⟨e, e2⟩ <;> omega) nd1 tup1 ld1 (by rw [n1]; exact hfew) b1 b2 b3 (by rw [n1]; exact b4) fun h2 L2 es2 ep2 t2 sb2 R2 pm2 =>
            wpAny_pure (q true h2 L2 es2 ep2 t2 (sb.trans sb2) R2 (fun z => absurd z hm) fun _ => pm2.trans pm)
        rcases two with ⟨_, e2⟩ | ⟨_, e2⟩
        · exact more 31 (by rw [e2, size_20]) (.inr (.inl rfl)) (by rw [e2, size_20]; decide) (by omega)
        · exact more 127 (by rw [e2, size_76]) (.inr (.inr rfl)) (by rw [e2, size_76]; decide) (by omega)
      · first
          | refine wp_if_neg (by simp [full]) ?_
          | (refine wpAny_bind ?_; refine wp_if_neg (by simp [full]) ?_; refine wpAny_pure ?_)
        refine wpAny_pure (q true h1 L1 es1 (ep + 1) t1 sb ⟨⟨_, ho1, ⟨hex.1, hex.2.1, hex.2.2⟩, rfl⟩, row1, q3, nd1, tup1, ld1, ?_, by rw [n1]; exact hfew⟩ (fun z => absurd z hm) fun _ => pm)
        unfold SetTable.tooFull at full
        rw [decide_eq_true_eq, q9] at full
        rw [n1]; omega
    · refine wp_if_neg hpl ?_
      try refine wpAny_bind (wpAny_pure ?_)
      simp only [if_true]
      generalize hpp : SetTable.below t.place (way t.mask (hT w k) K) = p at q2 q3 ⊢
      have row1 : (SetTable.insertAt es p (hT w k, Value.ref x)).toList = (L.take p ++ (x, k) :: L.drop p).map (ent w) := by
        rw [SetTable.toList_insertAt, R.rows, List.map_append, List.map_cons, List.map_take, List.map_drop]; rfl
      have hs1 : (L.take p ++ (x, k) :: L.drop p).map (fun p => hT w p.2) = (L.map fun p => hT w p.2).take p ++ hT w k :: (L.map fun p => hT w p.2).drop p := by
        rw [List.map_append, List.map_cons, List.map_take, List.map_drop]
      rw [← hs1] at q3
      have pm := put_rows L p (x, k)
      have n1 : (L.take p ++ (x, k) :: L.drop p).length = L.length + 1 := pm.length_eq
      generalize L.take p ++ (x, k) :: L.drop p = L1 at pm n1 q3 row1
      have z1 := rows_len row1
      rw [n1] at z1
      generalize SetTable.insertAt es p (hT w k, Value.ref x) = es1 at row1 z1 ⊢
      have nd1 : (L1.map (·.2)).Nodup := by
        refine (pm.map (·.2)).nodup_iff.mpr ?_
        rw [List.map_cons]
        exact List.nodup_cons.mpr ⟨hm, R.nd⟩
      refine wpAny_bind (wpAny_storeSet_of ho hd ?_ (by rw [z1, sizeLine_eq]; omega))
      have sb : Heap.SameBut a s.heap (s.heap.update a (Obj.putSet es1 t1)) := Heap.SameBut.update ..
      have ho1 := store_at (es' := es1) (t' := t1) ho hd
      generalize s.heap.update a (Obj.putSet es1 t1) = h1 at sb ho1 ⊢
      have tup1 : ∀ p ∈ L1, IsT h1 p.2 (.ref p.1) ∧ p.2.depth ≤ 30 := fun p hp => by
        rcases List.mem_cons.mp (pm.mem_iff.mp hp) with e | hp
        · rw [e]; exact ⟨tree_same hx ho hex.1 sb, hk⟩
        · exact ⟨tree_same (R.tup p hp).1 ho hex.1 sb, (R.tup p hp).2⟩
      have ld1 : w.params.followText "set-order" = true ∨ t1.led = true := by rw [q5]; exact R.ld
      rw [List.length_map] at q9
      by_cases full : t1.tooFull = true
      · first
          | (refine wpAny_bind ?_; refine wp_if_pos (by simp [full]) ?_)
          | (refine wp_if_pos (by simp [full]) ?_; refine wpAny_bind ?_)
        have f1 : (L.length + 1) * 5 ≥ t1.mask * 3 := by
          unfold SetTable.tooFull at full
          rw [decide_eq_true_eq, q9] at full
          exact full
        rw [l0]
        have z2 : t1.place.size = es1.size := by
          have h := q3.sz
          rw [List.length_map, n1] at h
          rw [h, z1]
        have two : (t.mask = 7 ∧ L.length = 4) ∨ (t.mask = 31 ∧ L.length = 18) := by
          rcases R.tab.mok with e | e | e
          · left; rw [q4, e] at f1; rw [e] at hr; exact ⟨e, by omega⟩
          · right; rw [q4, e] at f1; rw [e] at hr; exact ⟨e, by omega⟩
          · exfalso; rw [q4, e] at f1; omega
        have more : ∀ M, SetTable.sizeAbove (SetTable.grown (L.length + 1)) - 1 = M → MaskOk M → SetTable.sizeAbove (SetTable.grown (L.length + 1)) ≤ 128 → (L.length + 1) * 5 < M * 3 →
            wpAny (model P w) A (setRelay a (SetTable.grown (L.length + 1))) (fun _ s' => wpAny (model P w) A (pure true) Q E s') E { s with heap := h1 } := fun M b1 b2 b3 b4 =>
          relay_T (s := { s with heap := h1 }) ho1 ⟨hex.1, hex.2.1, hex.2.2⟩ rfl row1 z2 q3.dm (by rw [z1, q4]; rcases two with ⟨e, e2⟩ | ⟨e, e2⟩ <;> omega) nd1 tup1 ld1 (by rw [n1]; exact hfew) b1 b2 b3 (by rw [n1]; exact b4) fun h2 L2 es2 ep2 t2 sb2 R2 pm2 =>
            wpAny_pure (q true h2 L2 es2 ep2 t2 (sb.trans sb2) R2 (fun z => absurd z hm) fun _ => pm2.trans pm)
        rcases two with ⟨_, e2⟩ | ⟨_, e2⟩
        · exact more 31 (by rw [e2, size_20]) (.inr (.inl rfl)) (by rw [e2, size_20]; decide) (by omega)
        · exact more 127 (by rw [e2, size_76]) (.inr (.inr rfl)) (by rw [e2, size_76]; decide) (by omega)
      · first
          | refine wp_if_neg (by simp [full]) ?_
          | (refine wpAny_bind ?_; refine wp_if_neg (by simp [full]) ?_; refine wpAny_pure ?_)
        refine wpAny_pure (q true h1 L1 es1 (ep + 1) t1 sb ⟨⟨_, ho1, ⟨hex.1, hex.2.1, hex.2.2⟩, rfl⟩, row1, q3, nd1, tup1, ld1, ?_, by rw [n1]; exact hfew⟩ (fun z => absurd z hm) fun _ => pm)
        unfold SetTable.tooFull at full
        rw [decide_eq_true_eq, q9] at full
        rw [n1]; omega
end
end LM

set_option Elab.async false
set_option linter.all false
set_option maxRecDepth 100000
set_option maxHeartbeats 3200000
/-! LmU: set(a list or tuple of trees), sorted(a set of trees). -/
namespace LM
open PySem PySem.Spec PyProof.Rows L2 Evl
/-- what a set has got of the first i items -/
structure Has0 (ks : List (Addr × T)) (i : Nat) (L : List (Addr × T)) : Prop where
  sub : ∀ p ∈ L, p ∈ ks.take i
  all : ∀ p ∈ ks.take i, p.2 ∈ L.map (·.2)
  len : L.length ≤ i
theorem take1 {α : Type} {l : List α} {i : Nat} {x : α} (h : l[i]? = some x) : l.take (i + 1) = l.take i ++ [x] := by
  rw [List.take_add_one, h]; rfl
theorem Has0.old {ks L : List (Addr × T)} {i : Nat} {x : Addr × T} (g : Has0 ks i L) (h : ks[i]? = some x) (m : x.2 ∈ L.map (·.2)) : Has0 ks (i + 1) L := by
  refine ⟨fun p hp => ?_, fun p hp => ?_, Nat.le_succ_of_le g.len⟩ <;> rw [take1 h] at *
  · exact List.mem_append_left _ (g.sub p hp)
  · rcases List.mem_append.mp hp with z | z
    · exact g.all p z
    · rw [List.mem_singleton.mp z]; exact m
theorem Has0.new {ks L L' : List (Addr × T)} {i : Nat} {x : Addr × T} (g : Has0 ks i L) (h : ks[i]? = some x) (pm : L'.Perm (x :: L)) : Has0 ks (i + 1) L' := by
  refine ⟨fun p hp => ?_, fun p hp => ?_, by rw [pm.length_eq]; exact Nat.succ_le_succ g.len⟩ <;> rw [take1 h] at *
  · rcases List.mem_cons.mp (pm.mem_iff.mp hp) with e | z
    · rw [e]; exact List.mem_append_right _ (List.mem_singleton.mpr rfl)
    · exact List.mem_append_left _ (g.sub p z)
  · rw [(pm.map (·.2)).mem_iff, List.map_cons]
    rcases List.mem_append.mp hp with z | z
    · exact List.mem_cons_of_mem _ (g.all p z)
    · rw [List.mem_singleton.mp z]; exact List.mem_cons_self
/-- the items are trees of some depth -/
def Trees (h : Heap) (ks : List (Addr × T)) : Prop := ∀ p ∈ ks, IsT h p.2 (.ref p.1) ∧ p.2.depth ≤ 30
/-- the items are quiet in being asked, or no two have one hash -/
def Apart (w : World) (ts : List T) : Prop := T.depths ts ≤ 8 ∨ (ts.map (hT w)).Nodup
theorem Apart.md {w : World} {ks L : List (Addr × T)} {i : Nat} {x : Addr × T} (h : Apart w (ks.map (·.2))) (g : Has0 ks i L) (e : ks[i]? = some x) : Md w x.2 L := by
  rcases h with h | h
  · exact .inl ⟨Nat.le_trans (T.depth_mem (List.mem_map.mpr ⟨x, List.mem_of_getElem? e, rfl⟩)) h, fun p hp => Nat.le_trans (T.depth_mem (List.mem_map.mpr ⟨p, List.mem_of_mem_take (g.sub p hp), rfl⟩)) h⟩
  · refine .inr fun p hp z => ?_
    obtain ⟨j, hj⟩ := List.mem_iff_getElem?.mp (g.sub p hp)
    have lj : j < i := by
      have := (List.getElem?_eq_some_iff.mp hj).1
      rw [List.length_take] at this
      omega
    rw [List.getElem?_take_of_lt lj] at hj
    have e1 : ((ks.map (·.2)).map (hT w))[j]? = some (hT w p.2) := by rw [List.getElem?_map, List.getElem?_map, hj]; rfl
    have e2 : ((ks.map (·.2)).map (hT w))[i]? = some (hT w x.2) := by rw [List.getElem?_map, List.getElem?_map, e]; rfl
    have := (List.getElem?_inj (List.getElem?_eq_some_iff.mp e1).1 h).mp (e1.trans ((congrArg some z).trans e2.symm))
    omega
section
variable {P : Program} {w : World} {A : Around} {E : Value → Shared → Prop} {s : Shared}
theorem SetTr.move {h h' : Heap} {a : Addr} {L ks : List (Addr × T)} {i : Nat} {es : Array (Int × Value)} {ep : Nat} {t : SetTable} {h0 : Heap} (R : SetTr w h a L es ep t) (g : Has0 ks i L) (ha : ∀ o, h.get? a = some o → h'.get? a = some o) (tr : Trees h0 ks) (k : ∀ b o, h0.get? b = some o → h'.get? b = some o) : SetTr w h' a L es ep t := by
  obtain ⟨o, ho, r⟩ := R.ob
  refine ⟨⟨o, ha o ho, r⟩, R.rows, R.tab, R.nd, fun p hp => ?_, R.ld, R.room, R.few⟩
  obtain ⟨q1, q2⟩ := tr p (List.mem_of_mem_take (g.sub p hp))
  exact ⟨q1.keep (fun b o e _ => k b o e) _ _, q2⟩
theorem fresh_set {h : Heap} {a : Addr} (ho : h.get? a = some { cls := .type "set", dict := none, data := .set #[] 0 (.fresh 0 0 (!w.params.followText "set-order")) }) : SetTr w h a [] #[] 0 (.fresh 0 0 (!w.params.followText "set-order")) :=
  ⟨⟨_, ho, ⟨rfl, rfl, rfl⟩, rfl⟩, rfl, ⟨List.Pairwise.nil, rfl, rfl, .inl rfl, fun x hx => (by cases hx), fun i h j hi => (by simp at hi)⟩, List.nodup_nil, fun p hp => (by cases hp),
    (by show _ ∨ (!w.params.followText "set-order") = true; cases w.params.followText "set-order" <;> simp), (by show 0 * 5 < 7 * 3; decide), (by show 0 < 64; decide)⟩
/-- set.update's loop over trees -/
theorem update_T {I : Addr} {fp wr : List Addr} {G : Array GenState → Array GenState → Prop} {n : Nat} {Pv : Nat → Value → Prop} {St : Nat → Shared → Prop} {R : Result → Shared → Prop} (W : WalksS P w A.in1 I fp wr G n Pv St) (S : Addr) (hSf : S ∉ fp) (ks : List (Addr × T)) (hn : n = ks.length) (few : ks.length < 64)
    (hv : ∀ i v, Pv i v → ∃ p, ks[i]? = some p ∧ v = .ref p.1) (h0 : Heap) (tr : Trees h0 ks) (ap : Apart w (ks.map (·.2))) (hS0 : h0.get? S = none) (hw0 : ∀ b ∈ wr, h0.get? b = none) (hu : A.in1.units + 30 < cLine) : ∀ (k i : Nat) (s : Shared), n - i = k → i ≤ n → St i s → (∀ b o, h0.get? b = some o → s.heap.get? b = some o) →
      (∃ L es ep t, SetTr w s.heap S L es ep t ∧ Has0 ks i L) → (∀ s' L es ep t, Moved (S :: wr) G s s' → SetTr w s'.heap S L es ep t → Has0 ks n L → (∀ b o, h0.get? b = some o → s'.heap.get? b = some o) → R (.ok (.ret .none)) s') →
      codeAny (model P w) A (.builtin "set.update.loop" ⟨[.ref S, .ref I], []⟩) R s := by
  have out : S ∉ wr := fun h => hSf (W.sub _ h)
  have wide : ∀ b ∈ wr, b ∈ S :: wr := fun b hb => List.mem_cons_of_mem _ hb
  have still : ∀ {s s' : Shared}, Moved wr G s s' → (∀ b o, h0.get? b = some o → s.heap.get? b = some o) → ∀ b o, h0.get? b = some o → s'.heap.get? b = some o := fun hm hk b o e => hm.heap b o (fun hb => by rw [hw0 b hb] at e; cases e) (hk b o e)
  intro k
  induction k with
  | zero =>
    intro i s hk hi hst keep ⟨L, es, ep, t, hS, g⟩ fin
    obtain rfl : i = n := by omega
    refine codeAny_builtin F.entry_set_update_loop ?_
    rw [Around.under_plainId F.plain_set_update_loop _]
    show wpAny _ A.in1 (pyNext (.ref I) >>= _) _ _ s
    refine wpAny_bind (W.done s _ _ hst fun s' hm => ?_)
    show wpAny _ A.in1 (ret Value.none) _ _ s'
    have keep' := still hm keep
    exact wpAny_pure (fin s' L es ep t (hm.mono wide) (hS.move g (fun o e => hm.heap S o out e) tr keep') g keep')
  | succ k ih =>
    intro i s hk hi hst keep ⟨L, es, ep, t, hS, g⟩ fin
    have lt : i < n := by omega
    refine codeAny_builtin F.entry_set_update_loop ?_
    rw [Around.under_plainId F.plain_set_update_loop _]
    show wpAny _ A.in1 (pyNext (.ref I) >>= _) _ _ s
    refine wpAny_bind (W.item i s _ _ lt hst fun v s' hP hst' hm => ?_)
    obtain ⟨p, hp, rfl⟩ := hv i v hP
    have keep' := still hm keep
    have hS' : SetTr w s'.heap S L es ep t := hS.move g (fun o e => hm.heap S o out e) tr keep'
    obtain ⟨x0, xd⟩ := tr p (List.mem_of_getElem? hp)
    have x1 : IsT s'.heap p.2 (.ref p.1) := x0.keep (fun b o e _ => keep' b o e) _ _
    show wpAny _ A.in1 (holding [Value.ref p.1] (setAdd S (.ref p.1)) >>= _) _ _ s'
    refine wpAny_bind (wpAny_holding ?_)
    unfold setAdd
    refine wpAny_holding (wpAny_bind (hash_T x1 (by omega) ?_))
    refine add_T (s := { s' with toks := s'.toks + (nk p.2).draws }) hS' x1 (ap.md g hp) xd hu (by have := g.len; omega) fun b h' L' es' ep' t' sb hS2 c1 c2 => ?_
    have g' : Has0 ks (i + 1) L' := by
      rcases Classical.em (p.2 ∈ L.map (·.2)) with c | c
      · rw [c1 c]; exact g.old hp c
      · exact g.new hp (c2 c)
    have keep2 : ∀ b o, h0.get? b = some o → h'.get? b = some o := fun b o e => (sb.2 b (fun z => by rw [z, hS0] at e; cases e)).trans (keep' b o e)
    refine wpAny_pure ⟨plainId_quiet F.plain_set_update_loop _, ih (i + 1) _ (by omega) lt (W.frame _ s' _ _ hst' (Nat.le_add_right _ _) fun b hb o e => ?_) keep2 ⟨L', es', ep', t', hS2, g'⟩ fun s'' L2 es2 ep2 t2 hm'' hS'' g'' keep'' => ?_⟩
    · rw [sb.2 b (fun h : b = S => hSf (h ▸ hb))]; exact e
    · refine fin s'' L2 es2 ep2 t2 (Moved.trans W.gtrans ((hm.mono wide).then_heap (Nat.le_add_right _ _) fun b o hb e => ?_) hm'') hS'' g'' keep''
      rw [sb.2 b (fun h : b = S => hb (h ▸ List.mem_cons_self))]; exact e
/-- a new set's object -/
abbrev set0 (w : World) : Obj := { cls := .type "set", dict := none, data := .set #[] 0 (.fresh 0 0 (!w.params.followText "set-order")) }
/-- what stands at l: a list or a tuple of these items -/
def Row (h : Heap) (l : Addr) (items : Array Value) : Prop := h.IsList l items ∨ h.IsTuple l items
/-- set(xs) -/
theorem call_setT {l : Addr} {items : Array Value} (ks : List (Addr × T)) {Q : Value → Shared → Prop} (hh : A.handled = none) (hl : Row s.heap l items) (hit : items.toList = ks.map fun p => Value.ref p.1) (tr : Trees s.heap ks) (ap : Apart w (ks.map (·.2))) (few : ks.length < 64) (hu : A.units + 40 < cLine)
    (q : ∀ (h' : Heap) (tk : Nat) L es ep t, SetTr w h' s.heap.objs.size L es ep t → Has0 ks ks.length L → (∀ b o, s.heap.get? b = some o → h'.get? b = some o) → Q (.ref s.heap.objs.size) { s with heap := h', toks := tk }) : wpAny (model P w) A (call (.type "set") [.ref l]) Q E s := by
  have n0 : items.size = ks.length := by rw [← Array.length_toList, hit, List.length_map]
  obtain ⟨c, tl, hmro⟩ := F.called_set.mro
  have hmade := F.called_set.made
  have hsub := F.called_set.sub
  refine wpAny_call (codeAny_of_tree ?_)
  show wpAny _ _ (callAny (.type "set") _) _ _ _
  refine wpAny_pure ⟨Code.quiet_builtin _ (by decide +kernel), codeAny_builtin F.entry_type_call ?_⟩
  rw [Around.under_plain (weight_type_call_type "set" [.ref l] []) rfl]
  have h1 := F.called_set.notType
  have h2 := F.called_set.canCreate
  have hct := F.typeCall_set_1 (.ref l)
  repeat (any_goals (first | assumption | wp_step))
  obtain ⟨O, hO⟩ : ∃ O : Obj, O = { cls := .type "set", dict := none, data := .set #[] 0 (.fresh 0 0 (!w.params.followText "set-order")) } := ⟨_, rfl⟩
  refine codeAny_mono (code_set_led1 (.ref l) (E := E) (Q₁ := fun obj s₁ => obj = .ref s.heap.objs.size ∧ s₁ = { s with heap := s.heap.push O }) ⟨rfl, by rw [hO]⟩) fun r s₁ hr => ?_
  cases r with
  | error e => exact hr
  | ok fl =>
    cases fl with
    | ret obj =>
      obtain ⟨rfl, rfl⟩ := hr
      have hS : (s.heap.push O).get? s.heap.objs.size = some O := Heap.get?_push_size _ (by rw [hO]; rfl)
      have ty : Shared.TypeIs { s with heap := s.heap.push O } (.ref s.heap.objs.size) "set" := ⟨_, hS, by rw [hO]⟩
      have hli := F.called_set.init.lookup
      have hbi := F.called_set.init.bind (.ref s.heap.objs.size)
      repeat (any_goals (first | assumption | wp_step))
      refine codeAny_mono (codeAny_call_builtin (R := wants (fun r s₂ => r = .none ∧ ∃ h' tk L es ep t, s₂ = { s with heap := h', toks := tk } ∧ SetTr w h' s.heap.objs.size L es ep t ∧ Has0 ks ks.length L ∧ (∀ b o, s.heap.get? b = some o → h'.get? b = some o)) E) F.called_set.init.plain F.entry_set_init (check_set_init_1 ty ?_)) fun r₂ s₂ hr₂ => ?_
      · have lS : l < s.heap.objs.size := by
          rcases hl with ⟨o, ho, _⟩ | ⟨o, ho, _⟩ <;> exact Heap.lt_size ho
        have hh3 : A.in1.in1.in1.handled = none := by simp [hh]
        have z1 : (s.heap.push O).objs.size = s.heap.objs.size + 1 := Heap.size_push ..
        have neI : l ≠ (s.heap.push O).objs.size := by rw [z1]; exact Nat.ne_of_lt (Nat.lt_succ_of_lt lS)
        have nS : s.heap.objs.size ∉ [(s.heap.push O).objs.size, l] := by
          rw [z1]; simp only [List.mem_cons, List.not_mem_nil, or_false, not_or]
          exact ⟨Nat.ne_of_lt (Nat.lt_succ_self _), Nat.ne_of_gt lS⟩
        have hval : ∀ (i : Nat) (v : Value), items[i]? = some v → ∃ p, ks[i]? = some p ∧ v = .ref p.1 := fun i v hv => by
          have g : items.toList[i]? = some v := by rw [Array.getElem?_toList]; exact hv
          rw [hit, List.getElem?_map] at g
          obtain ⟨p, h1, h2⟩ := Option.map_eq_some_iff.mp g
          exact ⟨p, h1, h2.symm⟩
        have none_of : ∀ b, s.heap.objs.size ≤ b → s.heap.get? b = none := fun b hb => by
          cases g : s.heap.get? b with
          | none => rfl
          | some o => exact absurd (Nat.lt_of_lt_of_le (Heap.lt_size g) hb) (Nat.lt_irrefl _)
        rcases hl with hl | hl
        · subst hO
          obtain ⟨⟨c1, d1, t1, l1⟩, ho, hc, nl, hd⟩ := id hl
          simp only at hc hd
          subst hc hd
          have ho' : (s.heap.push (set0 w)).get? l = some { cls := .type "list", dict := d1, data := .seq items nl, slots := l1 } := Heap.get?_push_of_some _ ho
          have f1 := F.sub_list_set
          have f2 := F.sub_list_frozenset
          have f3 : (Value.type "list" == Value.type "dict") = false := by decide
          have hl1 : (s.heap.push (set0 w)).IsList l items := ⟨_, ho', rfl, nl, rfl⟩
          unfold Builtin.«set.__init__» noKeywords Builtin.Frozenset.updateFrom
          generalize hPI : pyIter = PI
          wp_walk
          subst hPI
          refine wpAny_pyIter_list hl1 ?_
          refine wpAny_bind (wpAny_runValue ?_)
          refine update_T ((Walks.list hh3 _ l neI items).toS) s.heap.objs.size nS ks n0 few hval s.heap tr ap (none_of _ (Nat.le_refl _)) (fun b hb => none_of b (by rw [List.mem_singleton.mp hb, z1]; exact Nat.le_succ _)) (by show A.units + 1 + 1 + 1 + 30 < cLine; omega) (items.size - 0) 0 _ (by omega) (Nat.zero_le _)
            ⟨⟨_, Heap.get?_push_size _ rfl, rfl, rfl⟩, (hl1.push _)⟩ (fun b o e => Heap.get?_push_of_some _ (Heap.get?_push_of_some _ e)) ⟨[], #[], 0, _, fresh_set (Heap.get?_push_of_some _ hS), ⟨fun p h => (by cases h), fun p h => (by simp at h), Nat.le_refl _⟩⟩ fun s' L es ep t hm hS' g' keep => ?_
          obtain ⟨h', g2, d', tk', os'⟩ := s'
          obtain rfl : g2 = s.gens := hm.gens
          obtain rfl : d' = s.drawn := hm.drawn
          obtain rfl : os' = s.os := hm.os
          show wpAny _ _ _ _ _ _
          refine wpAny_pure ?_
          show wpAny _ _ (ret Value.none) _ _ _
          rw [n0] at g'
          exact wpAny_pure ⟨rfl, h', tk', L, es, ep, t, rfl, hS', g', keep⟩
        · subst hO
          obtain ⟨⟨c1, d1, t1, l1⟩, ho, hc, nl, hd⟩ := id hl
          simp only at hc hd
          subst hc hd
          have ho' : (s.heap.push (set0 w)).get? l = some { cls := .type "tuple", dict := d1, data := .seq items nl, slots := l1 } := Heap.get?_push_of_some _ ho
          have f1 := F.sub_tuple_set
          have f2 := F.sub_tuple_frozenset
          have f3 : (Value.type "tuple" == Value.type "dict") = false := by decide
          have hl1 : (s.heap.push (set0 w)).IsTuple l items := ⟨_, ho', rfl, nl, rfl⟩
          unfold Builtin.«set.__init__» noKeywords Builtin.Frozenset.updateFrom
          generalize hPI : pyIter = PI
          wp_walk
          subst hPI
          refine wpAny_pyIter_tuple hl1 ?_
          refine wpAny_bind (wpAny_runValue ?_)
          refine update_T ((Walks.tuple hh3 _ l neI items).toS) s.heap.objs.size nS ks n0 few hval s.heap tr ap (none_of _ (Nat.le_refl _)) (fun b hb => none_of b (by rw [List.mem_singleton.mp hb, z1]; exact Nat.le_succ _)) (by show A.units + 1 + 1 + 1 + 30 < cLine; omega) (items.size - 0) 0 _ (by omega) (Nat.zero_le _)
            ⟨⟨_, Heap.get?_push_size _ rfl, rfl, rfl⟩, (hl1.push _)⟩ (fun b o e => Heap.get?_push_of_some _ (Heap.get?_push_of_some _ e)) ⟨[], #[], 0, _, fresh_set (Heap.get?_push_of_some _ hS), ⟨fun p h => (by cases h), fun p h => (by simp at h), Nat.le_refl _⟩⟩ fun s' L es ep t hm hS' g' keep => ?_
          obtain ⟨h', g2, d', tk', os'⟩ := s'
          obtain rfl : g2 = s.gens := hm.gens
          obtain rfl : d' = s.drawn := hm.drawn
          obtain rfl : os' = s.os := hm.os
          show wpAny _ _ _ _ _ _
          refine wpAny_pure ?_
          show wpAny _ _ (ret Value.none) _ _ _
          rw [n0] at g'
          exact wpAny_pure ⟨rfl, h', tk', L, es, ep, t, rfl, hS', g', keep⟩
      · cases r₂ with
        | error e => exact hr₂
        | ok fl₂ =>
          cases fl₂ with
          | ret r =>
            obtain ⟨rfl, h', tk, L, es, ep, t, rfl, hS', g', hk'⟩ := hr₂
            repeat (any_goals (first | assumption | wp_step))
            exact q _ _ _ _ _ _ hS' g' hk'
          | _ => exact hr₂.elim
    | _ => exact hr.elim
end
end LM

set_option Elab.async false
set_option linter.all false
set_option maxRecDepth 100000
set_option maxHeartbeats 3200000
/-! LmV: sorted(set(..)) by data. -/
namespace LM
open PySem PySem.Spec PyProof.Rows L2 Evl
theorem srt_asc : ∀ {l : List T}, T.Srt l → l.Nodup → T.Asc l
  | [], _, _ => List.Pairwise.nil
  | x :: l, h, n => by
    obtain ⟨h1, h2⟩ := List.pairwise_cons.mp h
    obtain ⟨n1, n2⟩ := List.nodup_cons.mp n
    refine List.pairwise_cons.mpr ⟨fun y hy => ?_, srt_asc h2 n2⟩
    cases c : T.lt x y with
    | true => rfl
    | false => exact absurd (T.lt_tot c (h1 y hy)) (fun e => n1 (e ▸ hy))
theorem sort_set {l m : List T} (n : l.Nodup) (e : ∀ x, x ∈ l ↔ x ∈ m) : T.sort l = T.set m :=
  T.set_of (srt_asc (T.sort_srt l) ((T.sort_perm l).nodup_iff.mpr n)) fun x => by rw [T.mem_sort, e]
section
variable {P : Program} {w : World} {A : Around} {E : Value → Shared → Prop} {s : Shared}
def adr : Value → Addr
  | .ref a => a
  | _ => 0
/-- sorted(a set of trees) -/
theorem sorted_setT {a : Addr} {L : List (Addr × T)} {es : Array (Int × Value)} {ep : Nat} {t : SetTable} {Q : Value → Shared → Prop} (R : SetTr w s.heap a L es ep t) (hh : A.handled = none) (hf : ∀ p ∈ L, full p.2 = true) (hu : A.units + 80 < cLine)
    (q : ∀ s' p (out : List Value) (c : Nat), (∀ b o, s.heap.get? b = some o → s'.heap.get? b = some o) → s'.gens = s.gens → s'.os = s.os → s.heap.objs.size ≤ p → s'.heap.get? p = some (seqObj "list" out.toArray c) → (out.map fun v => (adr v, tOf s.heap v)).Perm L → T.Srt (out.map (tOf s.heap)) → (∀ v ∈ out, ∃ p ∈ L, v = .ref p.1) → Q (.ref p) s') :
    wpAny (model P w) A (call (.builtin "sorted") [.ref a]) Q E s := by
  obtain ⟨o, ho, hex, hd⟩ := R.ob
  have few := R.few
  have l0 := rows_len R.rows
  refine Calls.call_function_entry kind_sorted plain_sorted entry_sorted (args_sorted1 _) ?_
  unfold Builtin.«sorted»
  refine wpAny_bind (m := checkCount "sorted" 1 1 _) (wpAny_pure ?_)
  refine wpAny_bind (collect_set (A := A.in1) hh ⟨o, ho, hex.1, hd⟩ R.ok (by rw [l0]; unfold scanBound; omega) R.tab.ris R.ld fun s1 vs k1 hz g1 o1 pm => ?_)
  have hes : es.toList.map (·.2) = L.map fun p => Value.ref p.1 := by rw [R.rows, List.map_map]; rfl
  rw [hes] at pm
  have lv : vs.length < 64 := by rw [pm.length_eq, List.length_map]; exact few
  have mem : ∀ v ∈ vs, ∃ p ∈ L, v = Value.ref p.1 := fun v hv => by
    obtain ⟨p, hp, e⟩ := List.mem_map.mp (pm.mem_iff.mp hv)
    exact ⟨p, hp, e.symm⟩
  have back : ∀ p ∈ L, (adr (Value.ref p.1), tOf s.heap (.ref p.1)) = p := fun p hp => by
    rw [tOf_eq (R.tup p hp).1]; rfl
  -- the trees of the values, in their order
  have tr1 : ∀ us : List Value, (∀ v ∈ us, ∃ p ∈ L, v = Value.ref p.1) → ∀ h' : Heap, (∀ b o, s.heap.get? b = some o → h'.get? b = some o) → IsTs h' (us.map (tOf s.heap)) us := by
    intro us
    induction us with
    | nil => intro _ _ _; exact .nil
    | cons v us ih =>
      intro hv h' hk
      obtain ⟨p, hp, rfl⟩ := hv v List.mem_cons_self
      have x := (R.tup p hp).1
      rw [List.map_cons]
      refine .cons ?_ (ih (fun u hu => hv u (List.mem_cons_of_mem _ hu)) h' hk)
      rw [tOf_eq x]
      exact x.keep (fun b o e _ => hk b o e) _ _
  have tmem : ∀ t ∈ vs.map (tOf s.heap), full t = true ∧ t.depth ≤ 30 := fun t ht => by
    obtain ⟨v, hv, rfl⟩ := List.mem_map.mp ht
    obtain ⟨p, hp, rfl⟩ := mem v hv
    rw [tOf_eq (R.tup p hp).1]
    exact ⟨hf p hp, (R.tup p hp).2⟩
  refine wpAny_bind (wpAny_newList ?_ (by rw [sizeLine_eq]; omega))
  have hoL : (s1.heap.push (seqObj "list" vs.toArray 0)).get? s1.heap.objs.size = some (seqObj "list" vs.toArray 0) := Heap.get?_push_size _ rfl
  have k2 : ∀ b o, s.heap.get? b = some o → (s1.heap.push (seqObj "list" vs.toArray 0)).get? b = some o := fun b o e => Heap.get?_push_of_some _ (k1 b o e)
  refine wpAny_bind (wpAny_holding (wpAny_call_entry slot_list_sort ⟨_, hoL, rfl⟩ entry_list_sort (SrtO.list_sort_ord (s := { s1 with heap := s1.heap.push (seqObj "list" vs.toArray 0) }) (swo_T s.heap) hoL (by rw [sizeLine_eq]; omega) (fun h2 => ?_) fun out hs hb => ⟨_, rfl, ?_⟩) (args_list_sort _)))
  · refine sortable_T (s := { s1 with heap := s1.heap.push (seqObj "list" vs.toArray 0) }) (by omega) (tr1 vs mem _ k2) (fun t ht => (tmem t ht).1) (T.depths_le fun t ht => Nat.le_trans (tmem t ht).2 (by decide)) (by show A.units + 1 + 1 + 62 < cLine; omega) s.heap (fun v hv => ?_) fun o' e c => ?_
    · obtain ⟨p, hp, rfl⟩ := mem v hv
      have x := (R.tup p hp).1
      rw [tOf_eq x]
      exact (tOf_eq (x.keep (fun b o e _ => k2 b o e) _ _)).symm
    · have e' : some o' = some (seqObj "list" vs.toArray 0) := e.symm.trans hoL
      cases e'
      exact absurd (Value.type.inj c) (by decide)
  · obtain ⟨c, hc⟩ := sortedHeap_at (vs := vs) (out := out.toArray) hoL
    have mo : ∀ v ∈ out, ∃ p ∈ L, v = Value.ref p.1 := fun v hv => mem v (hb.perm.mem_iff.mp hv)
    have pL : (out.map fun v => (adr v, tOf s.heap v)).Perm L := by
      have h1 := (hb.perm.trans pm).map (fun v => (adr v, tOf s.heap v))
      rw [List.map_map] at h1
      have e : L.map ((fun v => (adr v, tOf s.heap v)) ∘ fun p => Value.ref p.1) = L := by
        conv => rhs; rw [← List.map_id L]
        exact List.map_congr_left fun p hp => back p hp
      rwa [e] at h1
    have ss : T.Srt (out.map (tOf s.heap)) := List.pairwise_map.mpr (hs.imp fun {a b} h => h)
    refine wpAny_pure ⟨_, rfl, q _ s1.heap.objs.size out c (fun b u e => ?_) g1 o1 hz hc pL ss mo⟩
    have e1 := k1 b u e
    have lt := Heap.lt_size e1
    show (sortedHeap (s1.heap.push (seqObj "list" vs.toArray 0)) s1.heap.objs.size vs out.toArray).get? b = some u
    rw [sortedHeap_old (Nat.ne_of_lt lt) (by rw [size_push']; exact Nat.lt_succ_of_lt lt)]
    exact Heap.get?_push_of_some _ e1
end

/-! ### as objects of the heap that is tracked -/
structure SetT0' (w : World) (h : Heap) (a : Addr) (L : List (Addr × T)) : Prop where
  ex : ∃ (es : Array (Int × Value)) (ep : Nat) (t : SetTable), (∃ o, h.get? a = some o ∧ o.ExactSet ∧ o.data = .set es ep t) ∧ es.toList = L.map (ent w) ∧ TabOk t (L.map fun p => hT w p.2) ∧ (L.map (·.2)).Nodup ∧
    (w.params.followText "set-order" = true ∨ t.led = true) ∧ L.length * 5 < t.mask * 3 ∧ L.length < 64
def SetTo (w : World) (a : Addr) (L : List (Addr × T)) : HO := .ext fun h => SetT0' w h a L
theorem SetTr.bare {w : World} {h : Heap} {a : Addr} {L : List (Addr × T)} {es : Array (Int × Value)} {ep : Nat} {t : SetTable} (R : SetTr w h a L es ep t) : SetT0' w h a L := ⟨es, ep, t, R.ob, R.rows, R.tab, R.nd, R.ld, R.room, R.few⟩
theorem SetT0'.full {w : World} {h : Heap} {a : Addr} {L : List (Addr × T)} (R : SetT0' w h a L) (tr : Trees h L) : ∃ es ep t, SetTr w h a L es ep t := by
  obtain ⟨es, ep, t, h1, h2, h3, h4, h6, h7, h8⟩ := R.ex
  exact ⟨es, ep, t, h1, h2, h3, h4, tr, h6, h7, h8⟩
theorem setTo_ok {P : Program} {w : World} {H : Hp} {h : Heap} {a : Addr} {L : List (Addr × T)} (R : SetT0' w h a L) : ObjOk P w H h a (SetTo w a L) := by
  obtain ⟨es, ep, t, ⟨o, ho, r⟩, z⟩ := R.ex
  refine ⟨R, ⟨o, ho⟩, fun h1 h2 p k => ?_⟩
  obtain ⟨es', ep', t', ⟨o', ho', r'⟩, z'⟩ := SetT0'.ex p
  exact ⟨es', ep', t', ⟨o', k o' ho', r'⟩, z'⟩
/-- trees at their addresses -/
theorem zip_T {K : PySem.W.Frag} {H : Hp} : ∀ {ts : List T} {vs : List V} {us : List Value}, DpAll K H vs (ts.map T.data) → Vals vs us → ∃ ks : List (Addr × T), ks.map (·.2) = ts ∧ vs = ks.map (fun p => V.ref p.1) ∧ us = ks.map fun p => Value.ref p.1
  | [], _, _, h, r => by cases h; cases r; exact ⟨[], rfl, rfl, rfl⟩
  | t :: ts, _, _, h, r => by
    rw [List.map_cons] at h
    cases h with
    | cons h1 h2 =>
      cases r with
      | cons r1 r2 =>
        obtain ⟨ks, e1, e2, e3⟩ := zip_T h2 r2
        obtain ⟨a, rfl⟩ := dpT_ref h1
        cases r1
        exact ⟨(a, t) :: ks, by rw [List.map_cons, e1], by rw [List.map_cons, ← e2], by rw [List.map_cons, ← e3]⟩
theorem dps_ks {K : PySem.W.Frag} {H : Hp} : ∀ {ks : List (Addr × T)}, DpAll K H (ks.map fun p => V.ref p.1) ((ks.map (·.2)).map T.data) → ∀ p ∈ ks, Dp K H (.ref p.1) p.2.data
  | [], _, p, hp => by cases hp
  | k :: ks, h, p, hp => by
    rw [List.map_cons, List.map_cons, List.map_cons] at h
    cases h with
    | cons h1 h2 =>
      rcases List.mem_cons.mp hp with e | hp
      · rw [e]; exact h1
      · exact dps_ks h2 p hp
/-- set(xs) -/
def rSetOf (K : PySem.W.Frag) (w : World) : List V → Hp → VK → Prop := fun xs H Q => ∃ (l : Addr) (vs : List V) (ts : List T), xs = [.ref l] ∧ (SqL K H l vs ∨ SqT K H l vs) ∧ DpAll K H vs (ts.map T.data) ∧ T.depths ts ≤ 30 ∧ Apart w ts ∧ ts.length < 64 ∧
  ∀ (a : Addr) (L : List (Addr × T)), H a = none → (∀ Hm, Ex Hm H → DpAll K Hm vs (ts.map T.data) → ∀ p ∈ L, Dp K Hm (.ref p.1) p.2.data) → (∀ x, x ∈ L.map (·.2) ↔ x ∈ ts) → Q (.ref a) (upd H a (SetTo w a L))
/-- sorted(a set) -/
def rSortSet (K : PySem.W.Frag) (w : World) : List V → Hp → VK → Prop := fun xs H Q => ∃ (a : Addr) (L : List (Addr × T)), xs = [.ref a] ∧ H a = some (SetTo w a L) ∧ (∀ p ∈ L, Dp K H (.ref p.1) p.2.data ∧ full p.2 = true ∧ p.2.depth ≤ 30) ∧
  ∀ (p : Addr) (ys : List V), H p = none → (∀ Hm, Ex Hm H → (∀ p ∈ L, Dp K Hm (.ref p.1) p.2.data) → ∀ ts, (∀ x, x ∈ L.map (·.2) ↔ x ∈ ts) → DpAll K Hm ys ((T.set ts).map T.data)) → Q (.ref p) (upd H p (.lst ys))
section
variable {X : Cx}
theorem cr_setTr (hc : X.calm = true) (hu : X.A.units + 40 < cLine) : CallR X (.type "set") (rSetOf X.K X.w) := by
  intro pins s σ H xs us Q I r h
  obtain ⟨l, vs, ts, rfl, hl, hd, dep, ap, few, q⟩ := h
  rw [Vals.ref1 r]
  obtain ⟨its, rv, hrow⟩ : ∃ its : List Value, Vals vs its ∧ Row s.heap l its.toArray := by
    rcases hl with hl | hl
    · obtain ⟨its, rv, p, _⟩ := I.list hl
      exact ⟨its, rv, .inl p.isList⟩
    · obtain ⟨its, rv, ⟨o, ho, hcl, n, hd⟩, _⟩ := I.tuple hl
      exact ⟨its, rv, .inr ⟨o, ho, hcl, n, hd⟩⟩
  obtain ⟨ks, e1, e2, e3⟩ := zip_T hd rv
  subst e1
  have dks : ∀ p ∈ ks, Dp X.K H (.ref p.1) p.2.data := dps_ks (by rw [← e2]; exact hd)
  have tr : Trees s.heap ks := fun p hp => ⟨isT_of I _ _ _ (dks p hp) (show RelV (.ref p.1) (.ref p.1) from rfl), Nat.le_trans (T.depth_mem (List.mem_map.mpr ⟨p, hp, rfl⟩)) dep⟩
  have hn : H s.heap.objs.size = none := I.hok.fresh (Nat.le_refl _)
  refine call_setT (P := X.prog) (w := X.w) ks (I.ok.hd hc) hrow (by rw [List.toList_toArray]; exact e3) tr ap (by rw [List.length_map] at few; exact few) hu fun h' tk L es ep t R g k => ?_
  refine ⟨.ref s.heap.objs.size, upd H s.heap.objs.size (SetTo X.w s.heap.objs.size L), I.laid (t' := tk) k (Nat.le_refl _) (setTo_ok R.bare), rfl, q _ L hn (fun Hm em hdm p hp => ?_) fun x => ⟨fun hx => ?_, fun hx => ?_⟩⟩
  · exact dps_ks (by rw [← e2]; exact hdm) p (List.mem_of_mem_take (g.sub p hp))
  · obtain ⟨p, hp, rfl⟩ := List.mem_map.mp hx
    exact List.mem_map.mpr ⟨p, List.mem_of_mem_take (g.sub p hp), rfl⟩
  · obtain ⟨p, hp, rfl⟩ := List.mem_map.mp hx
    exact g.all p (by rw [List.take_length]; exact hp)
theorem cr_sortSet (hc : X.calm = true) (hu : X.A.units + 80 < cLine) : CallR X (.builtin "sorted") (rSortSet X.K X.w) := by
  intro pins s σ H xs us Q I r h
  obtain ⟨a, L, rfl, ha, hL, q⟩ := h
  have R0 : SetT0' X.w s.heap a L := (I.hok a _ ha).1
  have tr : Trees s.heap L := fun p hp => ⟨isT_of I _ _ _ (hL p hp).1 (show RelV (.ref p.1) (.ref p.1) from rfl), (hL p hp).2.2⟩
  obtain ⟨es, ep, t, R⟩ := R0.full tr
  rw [Vals.ref1 r]
  refine sorted_setT R (I.ok.hd hc) (fun p hp => (hL p hp).2.1) hu fun s' p out c k g o hp hg pm ss mo => ?_
  have lo : out.length = L.length := by have := pm.length_eq; rwa [List.length_map] at this
  have few := R.few
  have refs : ∀ v ∈ out, ∃ b, v = Value.ref b := fun v hv => by obtain ⟨p, _, e⟩ := mo v hv; exact ⟨_, e⟩
  have hv : Vals (out.map backV) out := vals_back refs
  have hn : H p = none := I.hok.fresh hp
  have hlen : (out.map backV).length ≤ sizeLine := by rw [List.length_map, sizeLine_eq]; omega
  have J : Inv X pins σ (upd H p (.lst (out.map backV))) { s with heap := s'.heap, gens := s'.gens, drawn := s'.drawn, toks := s'.toks } :=
    I.call (ch := []) (Un.laid k hp hn) (I.hok.laid k hp ⟨hlen, out, c, hv, hg⟩) (by rw [g]; exact I.bare) (fun _ z => nomatch z)
  have e : s' = { s with heap := s'.heap, gens := s'.gens, drawn := s'.drawn, toks := s'.toks } := by
    cases s'
    cases s
    cases o
    rfl
  rw [e]
  refine ⟨.ref p, _, J, rfl, q p _ hn fun Hm em hd ts hts => ?_⟩
  have et : out.map (tOf s.heap) = T.set ts := by
    have p2 := pm.map Prod.snd
    rw [List.map_map] at p2
    have p3 : (out.map (tOf s.heap)).Perm (L.map (·.2)) := p2
    exact T.set_of (srt_asc ss (p3.nodup_iff.mpr R.nd)) fun x => by rw [p3.mem_iff, hts]
  rw [← et, List.map_map]
  refine dps_map fun u hu => ?_
  obtain ⟨p, hp, rfl⟩ := mo u hu
  show Dp X.K Hm (.ref p.1) (T.data (tOf s.heap (.ref p.1)))
  rw [tOf_eq (R.tup p hp).1]
  exact hd p hp
end
theorem cr_setK (K : PySem.W.Frag) (w : World) {X : Cx} (h : X.K = K) (h2 : X.w = w) (hc : X.calm = true) (hu : X.A.units + 40 < cLine) : CallR X (.type "set") (rSetOf K w) := h ▸ h2 ▸ cr_setTr hc hu
theorem cr_sortSetK (K : PySem.W.Frag) (w : World) {X : Cx} (h : X.K = K) (h2 : X.w = w) (hc : X.calm = true) (hu : X.A.units + 80 < cLine) : CallR X (.builtin "sorted") (rSortSet K w) := h ▸ h2 ▸ cr_sortSet hc hu
/-- sorted(set(e)) -/
theorem el_sortSetA {K : PySem.W.Frag} {w : World} {ρ : Rho} {te : TE} {ts : List T} {d : D} (h : ED K te ρ d) (hd : d = .list (ts.map T.data) ∨ d = .tuple (ts.map T.data)) (hf : ∀ t ∈ ts, full t = true) (dep : T.depths ts ≤ 30) (ap : Apart w ts) (few : ts.length < 64) :
    EL K (tCB (rSortSet K w) (tCons (tCB (rSetOf K w) (tCons te tNil)) tNil)) ρ ((T.set ts).map T.data) := fun σ H Hm s l hs Q q =>
  h σ H Hm s l hs _ fun v H1 Hm1 g1 h1 => by
    obtain ⟨b, vs, rfl, hb, hv⟩ : ∃ b vs, v = .ref b ∧ (SqL K Hm1 b vs ∨ SqT K Hm1 b vs) ∧ DpAll K Hm1 vs (ts.map T.data) := by
      rcases hd with e | e
      · subst e
        obtain ⟨b, vs, e, h1, h2⟩ := dp_lst h1
        exact ⟨b, vs, e, .inl h1, h2⟩
      · subst e
        obtain ⟨b, vs, e, h1, h2⟩ := dp_tup h1
        exact ⟨b, vs, e, .inr h1, h2⟩
    refine ⟨b, vs, ts, rfl, hb.imp (ex_l g1.sub) (ex_t g1.sub), hv.mono g1.sub, dep, ap, few, fun a L na hL mL => ?_⟩
    have dL := hL Hm1 g1.sub hv
    have ga : Gr H1 Hm1 (upd H1 a (SetTo w a L)) Hm1 := Gr.priv g1.sub na
    refine ⟨a, L, rfl, upd_same, fun p hp => ⟨(dL p hp).mono ga.sub, ?_, ?_⟩, fun p ys np hy => ?_⟩
    · exact hf _ ((mL _).mp (List.mem_map.mpr ⟨p, hp, rfl⟩))
    · exact Nat.le_trans (T.depth_mem ((mL _).mp (List.mem_map.mpr ⟨p, hp, rfl⟩))) dep
    · have gp : Gr (upd H1 a (SetTo w a L)) Hm1 (upd (upd H1 a (SetTo w a L)) p (.lst ys)) Hm1 := Gr.priv ga.sub np
      exact q p ys _ Hm1 ((g1.trans ga).trans gp) (fresh_back (g1.ex.trans ga.ex) np) (fresh_back ga.sub np) upd_same (hy Hm1 ga.sub dL ts mL)
theorem el_sortSet {K : PySem.W.Frag} {w : World} {ρ : Rho} {te : TE} {ts : List T} {d : D} (h : ED K te ρ d) (hd : d = .list (ts.map T.data) ∨ d = .tuple (ts.map T.data)) (hf : ∀ t ∈ ts, full t = true) (dep : T.depths ts ≤ 8) (few : ts.length < 64) :
    EL K (tCB (rSortSet K w) (tCons (tCB (rSetOf K w) (tCons te tNil)) tNil)) ρ ((T.set ts).map T.data) := el_sortSetA h hd hf (by omega) (.inl dep) few
end LM
namespace LM
open PySem PySem.Spec PyProof.Rows L2 Evl
theorem hu80 {A : Around} {k : Nat} (hr : Room k A) : A.units + 80 < cLine := by have := hr.un; omega
theorem hu20 {A : Around} {k : Nat} (hr : Room k A) : A.units + 40 < cLine := by have := hr.un; omega
end LM

set_option Elab.async false
set_option linter.all false
set_option maxRecDepth 100000
set_option maxHeartbeats 1000000
/-! Lm6: operators whose operands are of several kinds, told as one reading each; zip; join; extend. -/
namespace LM
open PySem PySem.Spec PyProof.Rows L2 Evl
abbrev orR (r r' : R2) : R2 := fun x y H Q => r x y H Q ∨ r' x y H Q
section
variable {K : PySem.W.Frag} {r r' : R2} {a b c : D} {cs : List D}
theorem rd_l (h : RD K r a b c) : RD K (orR r r') a b c := fun H Hm x y s hx hy Q q => .inl (h H Hm x y s hx hy Q q)
theorem rd_r (h : RD K r' a b c) : RD K (orR r r') a b c := fun H Hm x y s hx hy Q q => .inr (h H Hm x y s hx hy Q q)
theorem rl_l (h : RL K r a b cs) : RL K (orR r r') a b cs := fun H Hm x y s hx hy Q q => .inl (h H Hm x y s hx hy Q q)
theorem rl_r (h : RL K r' a b cs) : RL K (orR r r') a b cs := fun H Hm x y s hx hy Q q => .inr (h H Hm x y s hx hy Q q)
theorem rd_rl (h : RL K r a b cs) : RD K r a b (.list cs) := fun H Hm x y s hx hy Q q =>
  h H Hm x y s hx hy Q fun p vs H2 Hm2 g hp hm h2 hd => q _ H2 _ (g.show hp hm h2) (.lst (.inl (.inl upd_same)) (hd.mono (Ex.new hm)))
end

/-! ### + -/
section
variable {X : Cx}
/-- list + list, of any lists -/
def rCatL (K : PySem.W.Frag) : R2 := fun x y H Q => ∃ a b xs ys, x = .ref a ∧ y = .ref b ∧ SqL K H a xs ∧ SqL K H b ys ∧ xs.length + ys.length ≤ sizeLine ∧ ∀ p, H p = none → Q (.ref p) (upd H p (.lst (xs ++ ys)))
theorem op_catL : OpR X (binaryOp .Add) (rCatL X.K) := by
  intro pins s σ H x y v u Q I rx ry ⟨a, b, xs, ys, ex, ey, ha, hb, hz, q⟩
  subst ex ey
  cases rx
  cases ry
  obtain ⟨i1, r1, p1, _⟩ := I.list ha
  obtain ⟨i2, r2, p2, _⟩ := I.list hb
  obtain ⟨⟨k1, e1, t1, l1⟩, w1, z1, n1, m1⟩ := p1.isList
  obtain ⟨⟨k2, e2, t2, l2⟩, w2, z2, n2, m2⟩ := p2.isList
  simp only at z1 m1 z2 m2
  subst z1 m1 z2 m2
  have hsz : i1.toArray.size + i2.toArray.size ≤ sizeLine := by
    rw [List.size_toArray, List.size_toArray, ← r1.length, ← r2.length]; exact hz
  refine concat_meets ⟨_, w1, rfl⟩ ⟨_, w2, rfl⟩ noFill_list_add seq_list_add PySem.F.slot_list_add PySem.F.entry_list_add (PySem.F.args_list_add_2 _ _) (list_addW a b _ _ _ _ _ _ _ _ hsz) ⟨w1, w2, ?_⟩
  have ea : i1.toArray ++ i2.toArray = (i1 ++ i2).toArray := by simp
  rw [ea]
  exact ⟨.ref _, _, I.lnew (t' := s.toks) (r1.append r2) (by rw [List.length_append]; exact hz), rfl, q _ I.fresh⟩
abbrev rCatS : R2 := fun x y H Q => ∃ i j, x = .str i ∧ y = .str j ∧ i.length + j.length ≤ sizeLine ∧ Q (.str (i ++ j)) H
abbrev rAddI : R2 := rI0 fun i j => .int (i + j)
abbrev rAddU (K : PySem.W.Frag) : R2 := orR rAddI (orR (rCatA K) (orR rCatS (rCatL K)))
theorem op_addU : OpR X (binaryOp .Add) (rAddU X.K) := op_add.or (op_catA.or (op_add_str.or op_catL))
end
section
variable {K : PySem.W.Frag}
theorem rl_catL {xs ys : List D} (hz : xs.length + ys.length ≤ 100000) : RL K (rCatL K) (.list xs) (.list ys) (xs ++ ys) := fun H Hm x y s hx hy Q q => by
  obtain ⟨a, vs, rfl, hs, ha⟩ := dp_lst hx
  obtain ⟨b, ws, rfl, ht, hb⟩ := dp_lst hy
  exact ⟨a, b, vs, ws, rfl, rfl, ex_l s hs, ex_l s ht, sz_of (by rw [ha.len, hb.len]; exact hz), fun p hp => q p _ _ Hm (Gr.priv s hp) hp (fresh_back s hp) upd_same (ha.app hb)⟩
theorem rd_catS {i j : Str} (hz : i.length + j.length ≤ 1000000) : RD K rCatS (.str i) (.str j) (.str (i ++ j)) := fun H Hm x y s hx hy Q q =>
  ⟨i, j, dp_str hx, dp_str hy, Nat.le_trans hz (by decide), q _ H Hm (Gr.refl s) (.str _)⟩
theorem rd_addI {i j : Int} : RD K (rAddU K) (.int i) (.int j) (.int (i + j)) := rd_l rd_add
theorem rd_addT {xs ys : List D} (hz : xs.length + ys.length ≤ 100000) : RD K (rAddU K) (.tuple xs) (.tuple ys) (.tuple (xs ++ ys)) := rd_r (rd_l (rd_catT hz))
theorem rd_addS {i j : Str} (hz : i.length + j.length ≤ 1000000) : RD K (rAddU K) (.str i) (.str j) (.str (i ++ j)) := rd_r (rd_r (rd_l (rd_catS hz)))
theorem rl_addL {xs ys : List D} (hz : xs.length + ys.length ≤ 100000) : RL K (rAddU K) (.list xs) (.list ys) (xs ++ ys) := rl_r (rl_r (rl_r (rl_catL hz)))
end

/-! ### * -/
section
variable {X : Cx}
/-- the empty tuple times an int -/
def rRepE (K : PySem.W.Frag) : R2 := fun x y H Q => ∃ l k, x = .ref l ∧ y = .int k ∧ SqT K H l [] ∧ 2 ≤ k ∧ k ≤ 1000 ∧ Q (.ref l) H
theorem tuple_mulE (l : Addr) (items : Array Value) (n : Nat) (dd : Option Addr) (sl : Array (Option Value)) (x : Int) (u : Tok) (c0 : (decide (x < -(2 ^ 63)) || decide (x ≥ 2 ^ 63)) = false) (c1 : (items.isEmpty || x == 1) = true) :
    Meets (Builtin.«tuple.__mul__» ⟨[.ref l, .int x u], []⟩) (fun _ R s => s.heap.get? l = some { cls := .type "tuple", dict := dd, data := .seq items n, slots := sl } ∧ R (.ok (.ret (Value.ref l))) s) :=
  .of_wp fun prog w A R s h => by
    obtain ⟨hp, g, d, tk, os⟩ := s
    obtain ⟨hl, h⟩ := h
    have f1 := AutoSeq1.idx_int
    have f2 := AutoSeq1.sub_tuple_tuple
    wp_walk using wpAny_loadPart' hl
    repeat (first
      | (refine wpAny_ite_false (decide_eq_false (by rw [c0]; exact Bool.false_ne_true)) ?_; wp_walk using wpAny_loadPart' hl)
      | (refine wpAny_ite_true (decide_eq_true c1) ?_; wp_walk using wpAny_loadPart' hl))
    exact ⟨_, rfl, h⟩
theorem op_repE : OpR X (binaryOp .Mult) (rRepE X.K) := by
  intro pins s σ H x y v u Q I rx ry ⟨l, k, ex, ey, hT, h1, h2, q⟩
  subst ex ey
  cases rx
  obtain ⟨t, rfl⟩ := ry
  obtain ⟨its, r, ⟨⟨cls, dd, data, sl⟩, ho, hc, n, hd⟩, hs⟩ := I.tuple hT
  simp only at hc hd
  subst hc hd
  cases r
  have c0 : (decide (k < -(2 ^ 63)) || decide (k ≥ 2 ^ 63)) = false := by
    rw [decide_eq_false (by omega), decide_eq_false (by omega)] <;> rfl
  refine wpAny_binaryOp_repeat_ref (T := "tuple") (U := "int") (by decide) ⟨_, ho, rfl⟩ (fun s' => typeIs_int s' k t) noFill_tuple_mul F.fills_int_mul F.slot_int_rmul repeat_tuple F.slot_int_index.lookup
    (call_meets F.slot_int_rmul (typeIs_int s k t) F.entry_int_rmul (F.args_int_rmul_2 _ _) (int_rmul_tuple k t l _ n dd sl)
      ⟨ho, rfl, ⟨_, ho, rfl⟩, call_meets F.slot_tuple_mul ⟨_, ho, rfl⟩ F.entry_tuple_mul (F.args_tuple_mul_2 _ _) (tuple_mulE l _ n dd sl k t c0 rfl) ⟨ho, ⟨.ref l, H, I, rfl, q⟩⟩⟩)
abbrev rMulI : R2 := rI CMul fun i j => .int (i * j)
abbrev rMulU (K : PySem.W.Frag) : R2 := orR rMulI (orR (rRepT K) (rRepE K))
theorem op_mulU : OpR X (binaryOp .Mult) (rMulU X.K) := op_mul.or (op_repT.or op_repE)
end
section
variable {K : PySem.W.Frag}
theorem rd_mulI {i j : Int} (h : CMul i j) : RD K (rMulU K) (.int i) (.int j) (.int (i * j)) := rd_l (rd_mul h)
theorem dps_flat {H : Hp} {vs : List V} {ds : List D} (h : DpAll K H vs ds) : ∀ k : Nat, DpAll K H (List.replicate k vs).flatten (List.replicate k ds).flatten
  | 0 => .nil
  | k + 1 => by
    show DpAll K H (vs ++ (List.replicate k vs).flatten) (ds ++ (List.replicate k ds).flatten)
    exact h.app (dps_flat h k)
theorem flat_nil {α : Type} : ∀ k : Nat, (List.replicate k ([] : List α)).flatten = []
  | 0 => rfl
  | k + 1 => by
    show [] ++ (List.replicate k ([] : List α)).flatten = []
    rw [flat_nil k]; rfl
theorem rd_mulT {xs : List D} {k : Int} (h1 : 2 ≤ k) (h2 : k ≤ 1000) (hz : xs.length ≤ 1000) : RD K (rMulU K) (.tuple xs) (.int k) (.tuple (List.replicate k.toNat xs).flatten) := fun H Hm x y s hx hy Q q => by
  obtain ⟨a, vs, rfl, hs, ha⟩ := dp_tup hx
  have hy' := dp_int hy
  subst hy'
  cases xs with
  | nil =>
    cases ha
    refine .inr (.inr ⟨a, k, rfl, rfl, ex_t s hs, h1, h2, ?_⟩)
    rw [flat_nil] at q
    exact q _ H Hm (Gr.refl s) (.tup hs .nil)
  | cons d ds =>
    refine .inr (.inl ⟨a, k, vs, rfl, rfl, ex_t s hs, ?_, h1, h2, by rw [ha.len]; exact hz, fun p hp => ?_⟩)
    · intro e
      have := ha.len
      rw [e] at this
      cases this
    · exact q _ _ _ (Gr.new s hp) (.tup (.inl (.inl upd_same)) (dps_flat (ha.mono (Ex.new (fresh_back s hp))) _))
end

/-! ### x[i] of any -/
section
variable {K : PySem.W.Frag}
theorem rd_ixUL {ds : List D} {i : Int} {d : D} (h : atI ds i = some d) : RD K (rIx K) (.list ds) (.int i) d := fun H Hm x y s hx hy Q q => .inl (rd_ixL h H Hm x y s hx hy Q q)
theorem rd_ixUT {ds : List D} {i : Int} {d : D} (h : atI ds i = some d) : RD K (rIx K) (.tuple ds) (.int i) d := fun H Hm x y s hx hy Q q => .inr (.inl (rd_ixT h H Hm x y s hx hy Q q))
end

/-! ### x[lo:hi] of any -/
abbrev rSlU (K : PySem.W.Frag) : V → Option Int → Option Int → Hp → VK → Prop := fun x lo hi H Q => rSlA K x lo hi H Q ∨ rSlL K x lo hi H Q ∨ C8.rSlX x lo hi H Q
theorem sl_u {X : Cx} : SlR X (rSlU X.K) := sl_tupA.or (sl_list.or C8.sl_txt)
section
variable {K : PySem.W.Frag} {ρ : Rho} {te : TE} {tl th : TO} {lo hi : Option Int} {ds : List D}
theorem ed_slUT (h : ED K te ρ (.tuple ds)) (h1 : EO K tl ρ lo) (h2 : EO K th ρ hi) : ED K (tSl (rSlU K) te tl th) ρ (.tuple (cut ds lo hi)) := fun σ H Hm s l hs Q q => by
  have := ed_slT h h1 h2 σ H Hm s l hs Q q
  exact h σ H Hm s l hs _ fun v H1 Hm1 g1 d1 => h1 σ H1 Hm1 g1.sub l (hs.mono g1.em) _ fun H2 Hm2 g2 => h2 σ H2 Hm2 g2.sub l (hs.mono (g1.em.trans g2.em)) _ fun H3 Hm3 g3 => by
    obtain ⟨a, xs, rfl, hx, ha⟩ := dp_tup d1
    have g23 := g2.trans g3
    refine .inl ⟨a, xs, rfl, ex_t g3.sub (ex_t g23.em hx), fun e => ?_, fun _ p hp => ?_⟩
    · have e' : cut ds lo hi = ds := by
        unfold cut
        rw [← ha.len]
        rw [e.1, e.2, ha.len, List.drop_zero, Nat.sub_zero, List.take_length]
      rw [e'] at q
      exact q _ H3 Hm3 (g1.trans g23) (.tup (ex_t g23.em hx) (ha.mono g23.em))
    · exact q _ _ _ ((g1.trans g23).trans (Gr.new g3.sub hp)) (.tup (.inl (.inl upd_same)) (((cut_dp ha).mono g23.em).mono (Ex.new (fresh_back g3.sub hp))))
theorem el_slUL (h : ED K te ρ (.list ds)) (h1 : EO K tl ρ lo) (h2 : EO K th ρ hi) : EL K (tSl (rSlU K) te tl th) ρ (cut ds lo hi) := fun σ H Hm s l hs Q q =>
  h σ H Hm s l hs _ fun v H1 Hm1 g1 d1 => h1 σ H1 Hm1 g1.sub l (hs.mono g1.em) _ fun H2 Hm2 g2 => h2 σ H2 Hm2 g2.sub l (hs.mono (g1.em.trans g2.em)) _ fun H3 Hm3 g3 => by
    obtain ⟨a, xs, rfl, hx, ha⟩ := dp_lst d1
    have g23 := g2.trans g3
    exact .inr (.inl ⟨a, xs, rfl, ex_l g3.sub (ex_l g23.em hx), fun p hp => q p _ _ Hm3 ((g1.trans g23).trans (Gr.priv g3.sub hp)) (fresh_back (g1.ex.trans g23.ex) hp) (fresh_back g3.sub hp) upd_same ((cut_dp ha).mono g23.em)⟩)
theorem ed_slUS {z : Str} (h : ED K te ρ (.str z)) (h1 : EO K tl ρ lo) (h2 : EO K th ρ hi) (hz : z.length ≤ 1000000) : ED K (tSl (rSlU K) te tl th) ρ (.str (Txt.slice z lo hi)) := fun σ H Hm s l hs Q q =>
  h σ H Hm s l hs _ fun v H1 Hm1 g1 d1 => h1 σ H1 Hm1 g1.sub l (hs.mono g1.em) _ fun H2 Hm2 g2 => h2 σ H2 Hm2 g2.sub l (hs.mono (g1.em.trans g2.em)) _ fun H3 Hm3 g3 =>
    .inr (.inr ⟨z, dp_str d1, Nat.le_trans hz (by decide), q _ H3 Hm3 ((g1.trans g2).trans g3) (.str _)⟩)
end

/-! ### < and >= of ints, of trees -/
abbrev rLtI : R2 := rI0 fun i j => .bl (decide (i < j))
abbrev rGeI : R2 := rI0 fun i j => .bl (decide (j ≤ i))
abbrev rLtU (K : PySem.W.Frag) : R2 := orR rLtI (rLtTr K)
abbrev rGeU (K : PySem.W.Frag) : R2 := orR rGeI (rGeTr K)
section
variable {X : Cx}
theorem op_ltU (hu : X.A.units + 64 < cLine) : OpR X (compareOp .Lt) (rLtU X.K) := op_lt.or (op_ltTr hu)
theorem op_geU (hu : X.A.units + 64 < cLine) : OpR X (compareOp .GtE) (rGeU X.K) := op_ge.or (op_geTr hu)
end
section
variable {K : PySem.W.Frag}
theorem rd_ltI {i j : Int} : RD K (rLtU K) (.int i) (.int j) (.bool (decide (i < j))) := rd_l (rd_I0 (g' := fun i j => .bool (decide (i < j))) fun _ => .bl _)
theorem rd_geI {i j : Int} : RD K (rGeU K) (.int i) (.int j) (.bool (decide (j ≤ i))) := rd_l (rd_I0 (g' := fun i j => .bool (decide (j ≤ i))) fun _ => .bl _)
theorem rd_gtI {i j : Int} : RD K (rI0 fun i j => .bl (decide (j < i))) (.int i) (.int j) (.bool (decide (j < i))) := rd_I0 (g' := fun i j => .bool (decide (j < i))) fun _ => .bl _
theorem rd_ltT {s t : T} (h : min s.depth t.depth ≤ 60) : RD K (rLtU K) s.data t.data (.bool (T.lt s t)) := rd_r (rd_ltTr h)
theorem rd_geT {s t : T} (h : min s.depth t.depth ≤ 60) : RD K (rGeU K) s.data t.data (.bool (!T.lt s t)) := rd_r (rd_geTr h)
end

/-! ### all / any of zip(t, u) with a pair as target -/
section
variable {K : PySem.W.Frag} {ρ : Rho} {te : TE} {i j : Nat}
theorem lc_zipT {a b : Addr} {xs ys : List V} {g : TG} {tt : TT} {te : TE} {vs : List Nat} {σ : L2.St} {H1 : Hp} {Dl : Addr} {Qd : Hp → Prop} (hl : xs.length = ys.length) (Pv : Nat → Hp → Prop) (h0 : Pv 0 (upd H1 Dl (.lst []))) (hq : ∀ i H, Pv i H → SqT K H a xs ∧ SqT K H b ys)
    (hs : ∀ (i : Nat) (x y : V) (T : Addr) (H : Hp), xs[i]? = some x → ys[i]? = some y → Pv i H → H T = none → g (.ref T) (wipe σ vs) (upd H T (.tup [x, y])) fun σ2 H2 => wipe σ2 vs = wipe σ vs ∧ tt σ2 H2 fun b H3 =>
      if b = true then te σ2 H3 fun y H4 => ∃ acc, H4 Dl = some (.lst acc) ∧ acc.length < sizeLine ∧ Pv (i + 1) (upd H4 Dl (.lst (acc ++ [y]))) else Pv (i + 1) H3) (hd : ∀ H, Pv xs.length H → Qd H) :
    ∃ W : Nat → Nat → Hp → Prop, (∃ m, W 0 m (upd H1 Dl (.lst []))) ∧ ∀ i m H, W i m H →
      ((RZ.ItzT K a b).stop i H ∧ Qd H) ∨ ((RZ.ItzT K a b).go i H ∧ ∃ Nx : Hp → Prop, (∀ H', Nx H' → ∃ m', m' < m ∧ W (i + 1) m' H') ∧ ∀ x H', (RZ.ItzT K a b).yld i H x H' → g x (wipe σ vs) H' fun σ2 H2 => wipe σ2 vs = wipe σ vs ∧ tt σ2 H2 fun b H3 =>
        if b = true then te σ2 H3 fun y H4 => ∃ acc, H4 Dl = some (.lst acc) ∧ acc.length < sizeLine ∧ Nx (upd H4 Dl (.lst (acc ++ [y]))) else Nx H3) := by
  refine ⟨fun i m H => i + m = xs.length ∧ Pv i H, ⟨xs.length, Nat.zero_add _, h0⟩, fun i m H w => ?_⟩
  obtain ⟨hm, p⟩ := w
  obtain ⟨qx, qy⟩ := hq i H p
  rcases Nat.lt_or_ge i xs.length with hlt | hge
  · obtain ⟨x, hx⟩ : ∃ x, xs[i]? = some x := ⟨_, List.getElem?_eq_getElem hlt⟩
    obtain ⟨y, hy⟩ : ∃ y, ys[i]? = some y := ⟨_, List.getElem?_eq_getElem (hl ▸ hlt)⟩
    refine .inr ⟨⟨xs, ys, x, y, qx, qy, hx, hy⟩, Pv (i + 1), fun H' p' => ⟨m - 1, by omega, by omega, p'⟩, fun v H' yl => ?_⟩
    obtain ⟨T, x', y', e1, hT, e2, f1, f2⟩ := yl
    subst e1 e2
    exact hs i x' y' T H (f1 xs qx) (f2 ys qy) p hT
  · have e : i = xs.length := by omega
    subst e
    exact .inl ⟨⟨xs, ys, qx, qy, .inl (Nat.le_refl _)⟩, hd H p⟩
abbrev gPair (K : PySem.W.Frag) (i j : Nat) : TG := gTup K 2 (gCons (gName i) (gCons (gName j) gNil))
def zipm (f : D → D → D) : List D → List D → List D
  | x :: xs, y :: ys => f x y :: zipm f xs ys
  | _, _ => []
theorem zipm_len (f : D → D → D) : ∀ xs ys : List D, xs.length = ys.length → (zipm f xs ys).length = xs.length
  | [], [], _ => rfl
  | x :: xs, y :: ys, h => by
    show (zipm f xs ys).length + 1 = xs.length + 1
    rw [zipm_len f xs ys (by simpa using h)]
  | [], _ :: _, h => by cases h
  | _ :: _, [], h => by cases h
theorem zipm_get (f : D → D → D) : ∀ (xs ys : List D) (i : Nat) (x y : D), xs[i]? = some x → ys[i]? = some y → (zipm f xs ys)[i]? = some (f x y)
  | [], _, _, _, _, h, _ => by simp at h
  | _ :: _, [], _, _, _, _, h => by simp at h
  | a :: xs, b :: ys, 0, x, y, h1, h2 => by
    have e1 : a = x := Option.some.inj h1
    have e2 : b = y := Option.some.inj h2
    subst e1 e2
    rfl
  | a :: xs, b :: ys, i + 1, x, y, h1, h2 => zipm_get f xs ys i x y h1 h2
theorem el_lcZ {ta : TA} {xs ys : List D} (f : D → D → D) (hsrc : EDs K ta ρ [.tuple xs, .tuple ys]) (hl : xs.length = ys.length) (hz : xs.length ≤ 50000) (hij : i ≠ j)
    (he : ∀ (k : Nat) (x y : D), xs[k]? = some x → ys[k]? = some y → ED K te (((wipeR ρ [i, j]).set i (some x)).set j (some y)) (f x y)) :
    EL K (tLc (RZ.iZipA K ta) (gPair K i j) tYes te [i, j]) ρ (zipm f xs ys) := fun σ H Hm s l hs Q q => by
  refine hsrc σ H Hm s l hs _ fun vs H1 Hm1 g1 h1 => ?_
  obtain ⟨va, vb, rfl, da, db⟩ := dps2 h1
  obtain ⟨a, us, rfl, hx, ha⟩ := dp_tup da
  obtain ⟨b, ws, rfl, hy, hb⟩ := dp_tup db
  have la := ha.len
  have lb := hb.len
  refine ⟨a, b, us, ws, rfl, .inr ⟨ex_t g1.sub hx, ex_t g1.sub hy, fun Dl hD => ?_⟩⟩
  refine lc_zipT (xs := us) (ys := ws) (by omega) (fun k H' => Cp K H1 Hm1 Dl ((zipm f xs ys).take k) H') ?_ (fun k H' c => ?_) (fun k x y T H' hi hi2 c hT => ?_) (fun H' c => ?_)
  · exact ⟨Hm1, [], Gr.priv g1.sub hD, fresh_back g1.sub hD, upd_same, .nil⟩
  · obtain ⟨_, _, g, _⟩ := c
    exact ⟨ex_t g.sub (ex_t g.em hx), ex_t g.sub (ex_t g.em hy)⟩
  · obtain ⟨d, hd, hxd⟩ := ha.get' hi
    obtain ⟨d2, hd2, hyd⟩ := hb.get' hi2
    have hm := zipm_get f xs ys k d d2 hd hd2
    obtain ⟨Hm', acc, g, n1, n2, n3⟩ := c
    have gT : Gr H' Hm' (upd H' T (.tup [x, y])) Hm' := Gr.priv g.sub hT
    refine ⟨T, [x, y], rfl, .inl (.inl upd_same), rfl, x, [y], rfl, y, [], rfl, rfl, ?_, ?_⟩
    · show ((((((σ.set j none).set i none).set i (some x)).set j (some y)).set j none).set i none) = ((σ.set j none).set i none)
      apply List.ext_getElem?
      intro m
      simp only [List.getElem?_set, List.length_set]
      by_cases m1 : i = m <;> by_cases m2 : j = m <;> simp [m1, m2]
    · have l2 : (((wipeR ρ [i, j]).set i (some d)).set j (some d2)).length ≤ (((wipe σ [i, j]).set i (some x)).set j (some y)).length := by simp only [List.length_set, wipeR_length, wipe_length]; exact l
      have l3 : (wipeR ρ [i, j]).length ≤ (wipe σ [i, j]).length := by rw [wipeR_length, wipe_length]; exact l
      have S : Sd K Hm' (((wipe σ [i, j]).set i (some x)).set j (some y)) (((wipeR ρ [i, j]).set i (some d)).set j (some d2)) :=
        ((((hs.mono g1.em).mono g.em).wipe [i, j]).set l3 i (hxd.mono g.em)).set (by simp only [List.length_set]; exact l3) j (hyd.mono g.em)
      show tYes _ _ _
      refine (et_yes (K := K) (ρ := (((wipeR ρ [i, j]).set i (some d)).set j (some d2)))) _ _ Hm' gT.sub l2 S _ fun H3 Hm3 g3 => ?_
      simp only [if_true]
      refine he k d d2 hd hd2 _ H3 Hm3 g3.sub l2 (S.mono g3.em) _ fun z H4 Hm4 g4 hz4 => ?_
      have g5 := (gT.trans g3).trans g4
      have e4 : H4 Dl = some (.lst acc) := g5.ex _ _ n2
      have m4 : Hm4 Dl = none := g5.own _ _ n2 n1
      refine ⟨acc, e4, sz_lt (by rw [n3.len, List.length_take, zipm_len f xs ys hl]; omega), Hm4, acc ++ [z], ⟨?_, g.em.trans g5.em, ?_, (g.trans g5).own⟩, m4, upd_same, ?_⟩
      · exact Ex.mut (g.ex.trans g5.ex) hD
      · intro c o hc
        have : c ≠ Dl := fun e => by subst e; rw [m4] at hc; cases hc
        rw [upd_ne this]; exact g4.sub c o hc
      · rw [List.take_add_one, hm]
        exact (n3.mono g5.em).snoc hz4
  · rw [List.take_of_length_le (by rw [zipm_len f xs ys hl]; omega)] at c
    obtain ⟨Hm', acc, g, n1, n2, n3⟩ := c
    exact q Dl acc H' Hm' (g1.trans g) (fresh_back g1.ex hD) n1 n2 n3
end

/-! ### sep.join(list of texts) -/
section
variable {K : PySem.W.Frag}
abbrev rJoin (K : PySem.W.Frag) : V → List V → Hp → VK → Prop := fun x xs H Q => ∃ a p, ∃ ys : List Str, x = .str a ∧ xs = [.ref p] ∧ (SqL K H p (ys.map V.str) ∨ SqT K H p (ys.map V.str)) ∧ (ys.map (·.length)).sum + ys.length * a.length ≤ 16777216 ∧ Q (.str (Txt.join a ys)) H
theorem ed_join {ρ : Rho} {to te : TE} {a : Str} {ys : List Str} {ds : List D} (ho : ED K to ρ (.str a)) (he : ED K te ρ (.list ds)) (e : ds = ys.map PyData.str) (hz : (ys.map (·.length)).sum + ys.length * a.length ≤ 16777216) : ED K (tM1 (rJoin K) to te) ρ (.str (Txt.join a ys)) := fun σ H Hm s l hs Q q =>
  ho σ H Hm s l hs _ fun x H1 Hm1 g1 h1 => ⟨⟨a, dp_str h1⟩, he σ H1 Hm1 g1.sub l (hs.mono g1.em) _ fun y H2 Hm2 g2 h2 => by
    subst e
    obtain ⟨p, ws, rfl, hp, hd⟩ := dp_lst h2
    have := dp_strs hd
    subst this
    exact ⟨a, p, ys, dp_str h1, rfl, .inl (ex_l g2.sub hp), hz, q _ H2 Hm2 (g1.trans g2) (.str _)⟩⟩
end

/-! ### xs.extend(ys), ys any list or tuple -/
section
variable {X : Cx}
theorem extend_any (T : String) (hT : T = "list" ∨ T = "tuple") (l : Addr) (items : Array Value) (n : Nat) (b : Addr) (items2 : Array Value) (n2 : Nat) (dd2 : Option Addr) (sl2 : Array (Option Value)) (hc0 : ¬(!items.isEmpty && Builtin.List.listTooLong (items.size + items2.size)) = true) (hc1 : items.size ≤ sizeLine) (hs2 : (items ++ items2).size ≤ sizeLine + 1) :
    Meets (Builtin.«list.extend» ⟨[.ref l, .ref b], []⟩) (fun _ R s => s.heap.get? l = some { cls := .type "list", dict := none, data := .seq items n, slots := #[] } ∧ s.heap.get? b = some { cls := .type T, dict := dd2, data := .seq items2 n2, slots := sl2 } ∧
      R (.ok (.ret Value.none)) { s with heap := s.heap.update l (Obj.mapSeq fun x => x ++ items2), toks := s.toks }) :=
  .of_wp fun prog w A R s h => by
    obtain ⟨hp, g, d, tk, os⟩ := s
    obtain ⟨hl, hb, h⟩ := h
    have f1 := AutoSeq1.idx_int
    have f2 := AutoSeq1.sub_tuple_tuple
    have f3 := AutoSeq1.sub_list_list
    have f4 := AutoSeq1.sub_tuple_list
    have f5 := AutoSeq1.sub_list_tuple
    rcases hT with e | e
    · subst e
      wp_walk using (wpAny_updateSeq hl rfl (hz := hc1) (_hz' := hs2)), wpAny_loadPart' hl, wpAny_loadPart' hb
      exact ⟨_, rfl, h⟩
    · subst e
      wp_walk using (wpAny_updateSeq hl rfl (hz := hc1) (_hz' := hs2)), wpAny_loadPart' hl, wpAny_loadPart' hb
      exact ⟨_, rfl, h⟩
def rExtA (K : PySem.W.Frag) : V → List V → Hp → VK → Prop := fun x vs H Q => ∃ l b xs zs, x = .ref l ∧ vs = [.ref b] ∧ H l = some (.lst xs) ∧ (SqL K H b zs ∨ SqT K H b zs) ∧ xs.length + zs.length ≤ sizeLine ∧ Q .non (upd H l (.lst (xs ++ zs)))
theorem mt_extA : MtM X "list.extend" (rExtA X.K) := by
  intro pins s σ H x vs v us Q I rx rv ⟨l, b, xs, zs, ex, ev, hH, hB, hz, q⟩
  subst ex ev
  cases rx
  obtain ⟨u, rfl, ru⟩ := rv.one
  cases ru
  obtain ⟨z, its, n, r, hl, e⟩ := I.lstM hH
  obtain ⟨T, hT, its2, r2, ⟨cls2, dd2, dat2, sl2⟩, n2, ho2, hc2, hd2⟩ : ∃ T, (T = "list" ∨ T = "tuple") ∧ ∃ its2 : List Value, Vals zs its2 ∧ ∃ (o : Obj) (n2 : Nat), s.heap.get? b = some o ∧ o.cls = .type T ∧ o.data = .seq its2.toArray n2 := by
    rcases hB with hB | hB
    · obtain ⟨i2, r2, p2, _⟩ := I.list hB
      obtain ⟨o, ho, hc, n2, hd⟩ := p2.isList
      exact ⟨"list", .inl rfl, i2, r2, o, n2, ho, hc, hd⟩
    · obtain ⟨i2, r2, ⟨o, ho, hc, n2, hd⟩, _⟩ := I.tuple hB
      exact ⟨"tuple", .inr rfl, i2, r2, o, n2, ho, hc, hd⟩
  simp only at hc2 hd2
  subst hc2 hd2
  have l1 := r2.length
  have hsz : its.toArray.size + its2.toArray.size ≤ sizeLine := by rw [List.size_toArray, List.size_toArray, ← l1, ← hl]; exact hz
  have hlong : ¬ (!its.toArray.isEmpty && Builtin.List.listTooLong (its.toArray.size + its2.toArray.size)) = true := by
    rw [notLongL hsz, Bool.and_false]
    exact Bool.false_ne_true
  refine call_meets F.slot_list_extend ⟨_, e, rfl⟩ F.entry_list_extend (F.args_list_extend_2 _ _) (extend_any T hT l its.toArray n b its2.toArray n2 dd2 sl2 hlong (by omega) (by rw [Array.size_append]; omega)) ⟨e, ho2, ?_⟩
  refine ⟨.non, _, I.lset (its' := its ++ its2) hH e (by simp) (r.append r2) ?_, rfl, q⟩
  rw [List.length_append]
  exact hz
end
theorem imms_get : ∀ {es : List D} {d : D}, imms es = true → d ∈ es → imm d = true
  | [], _, _, h => by cases h
  | x :: xs, d, q, h => by
    simp only [imms, Bool.and_eq_true] at q
    rcases List.mem_cons.mp h with e | h
    · rw [e]; exact q.1
    · exact imms_get q.2 h
section
variable {K : PySem.W.Frag} {ρ : Rho} {te : TE} {i : Nat} {ds es : List D}
theorem xd_ext (h : ED K te (ρ.set i (some (.list ds))) (.list es)) (hd : imms es = true) (hz : ds.length + es.length ≤ 90000) :
    XD K (tDrop (tBM K "list" (rExtA K) (tVar i) (tCons te tNil))) ρ (some (i, ds)) (.nx ρ (some (i, ds ++ es))) := fun H0 Hm0 E σ H Hm S f => by
  obtain ⟨Hv, s1, s2, s3, s4, s5, s6⟩ := S.view
  obtain ⟨a, vs, h1, h2, h3, h4, h5, e⟩ := id s6
  refine ⟨.ref a, h1, .inl ⟨rfl, vs, .inl (.inl h4)⟩, ?_⟩
  refine h σ H Hv s1 s4 s3 _ fun v H2 Hv2 g hv => ?_
  obtain ⟨b, ws, rfl, hb, hw⟩ := dp_lst hv
  subst e
  have e2 : Hv2 a = some (.lst vs) := g.em _ _ upd_same
  obtain ⟨Hm2, em, S2, back⟩ := S.hide s2 s6 g
  obtain ⟨a', vs', k1, k2, k3, k4, k5⟩ := S2.own
  rw [h1] at k1
  cases k1
  rw [g.ex _ _ h4] at k4
  cases k4
  have hw2 : DpAll K Hm2 ws es := by
    refine DpAll.of_get hw.len fun k v d h1 h2 => ?_
    obtain ⟨d', hd', hv'⟩ := hw.get' h1
    rw [h2] at hd'
    cases hd'
    refine back v d (.inr ?_) hv'
    exact imms_get hd (List.mem_of_getElem? h2)
  refine ⟨a, b, vs, ws, rfl, rfl, g.ex _ _ h4, .inl (ex_l g.sub hb), ?_, ?_⟩
  · exact sz_of (by rw [h5.len, hw.len]; omega)
  · exact f _ _ Hm2 em (S2.put h1 k2 k3 (k5.app hw2))
end
end LM

set_option Elab.async false
set_option linter.all false
set_option maxRecDepth 100000
set_option maxHeartbeats 1000000
/-! Lm7: one rule for each word in front of a rest; names of the top; lists handed back. -/
namespace LM
open PySem PySem.Spec PyProof.Rows L2 Evl
section
variable {K : PySem.W.Frag} {ρ ρ' : Rho} {ω ω' : Om} {o : Out} {t u w : TS} {te : TE} {ta : TA} {tt : TT} {d : D} {ds es : List D} {i j : Nat}
theorem xd_ifs {b : Bool} (h : ET K tt (vw ρ ω) b) (h1 : b = true → XD K (tSeq t w) ρ ω o) (h2 : b = false → XD K (tSeq u w) ρ ω o) : XD K (tSeq (tIfS tt t u) w) ρ ω o := fun H0 Hm0 E σ H Hm S f => by
  obtain ⟨Hv, s1, s2, s3, s4, s5, s6⟩ := S.view
  refine h σ H Hv s1 s4 s3 _ fun H2 Hv2 g => ?_
  obtain ⟨Hm2, em, S2, back⟩ := S.hide s2 s6 g
  cases b with
  | true => exact h1 rfl H0 Hm0 E σ H2 Hm2 S2 (f.mono em)
  | false => exact h2 rfl H0 Hm0 E σ H2 Hm2 S2 (f.mono em)
theorem xd_assoc (h : XD K (tSeq t (tSeq u w)) ρ ω o) : XD K (tSeq (tSeq t u) w) ρ ω o := h
theorem xd_nexts (h : XD K w ρ ω o) : XD K (tSeq tNext w) ρ ω o := h
theorem xd_rets (h : ED K te (vw ρ ω) d) : XD K (tSeq (tRet te) w) ρ ω (.rt d) := xd_seq_rt (xd_ret h)
theorem xd_breaks : XD K (tSeq tBreak w) ρ ω (.bk ρ ω) := xd_seq_bk xd_break
/-- a call as a statement's expression whose value is dropped -/
theorem hide_none {H : Hp} : True := trivial
end

/-! ### what the top holds -/
structure BI (mg : Str → Option Value) : Prop where
  len : mg "len" = none
  range : mg "range" = none
  sorted : mg "sorted" = none
  set : mg "set" = none
  tuple : mg "tuple" = none
  list : mg "list" = none
  zip : mg "zip" = none
  all : mg "all" = none
  any : mg "any" = none
  sum : mg "sum" = none
  max : mg "max" = none
  min : mg "min" = none
  isinstance : mg "isinstance" = none
  int : mg "int" = none
  bool : mg "bool" = none
  str : mg "str" = none
  abs : mg "abs" = none
  enumerate : mg "enumerate" = none
  repr : mg "repr" = none
  ValueError : mg "ValueError" = none
theorem pe_const {X : Cx} {x : Str} {n : Int} {pos : Pos} (h : ∃ tk, X.mg x = some (.int n tk)) (hg : Gl X x) (hd : (x == ("__debug__" : Str)) = false := by decide) : PE X (.Name x pos) (tC (.int n)) := by
  obtain ⟨tk, h⟩ := h
  exact pe_glob hg h ⟨tk, rfl⟩ hd
theorem hu65 {A : Around} {k : Nat} (hr : Room k A) : A.units + 65 < cLine := by have := hr.un; omega

/-! ### == of data, of texts -/
abbrev rEqU (K : PySem.W.Frag) : R2 := orR (rEqD K) rEq
abbrev rNeU (K : PySem.W.Frag) : R2 := orR (rNeD K) rNe
theorem op_eqU {X : Cx} (hu : X.A.units + 64 < cLine) : OpR X (compareOp .Eq) (rEqU X.K) := (op_eqD hu).or op_eq
theorem op_neU {X : Cx} (hu : X.A.units + 64 < cLine) : OpR X (compareOp .NotEq) (rNeU X.K) := (op_neD hu).or op_ne
section
variable {K : PySem.W.Frag}
theorem rd_eqU {a b : D} (ha : SeqAt.shaped a = true) (hb : SeqAt.shaped b = true) : RD K (rEqU K) a b (.bool (PyData.eqv a b)) := rd_l (rd_eqD ha hb)
theorem rd_neU {a b : D} (ha : SeqAt.shaped a = true) (hb : SeqAt.shaped b = true) : RD K (rNeU K) a b (.bool (!PyData.eqv a b)) := rd_l (rd_neD ha hb)
theorem rd_eqI {i j : Int} : RD K (rEqU K) (.int i) (.int j) (.bool (decide (i = j))) := by
  have h := rd_eqU (K := K) (a := .int i) (b := .int j) rfl rfl
  rwa [show PyData.eqv (.int i) (.int j) = decide (i = j) by rw [PyData.eqv, Bool.beq_eq_decide_eq]] at h
theorem rd_neI {i j : Int} : RD K (rNeU K) (.int i) (.int j) (.bool (!decide (i = j))) := by
  have h := rd_neU (K := K) (a := .int i) (b := .int j) rfl rfl
  rwa [show PyData.eqv (.int i) (.int j) = decide (i = j) by rw [PyData.eqv, Bool.beq_eq_decide_eq]] at h
theorem rd_eqS {x y : Str} : RD K (rEqU K) (.str x) (.str y) (.bool (decide (x = y))) := fun H Hm v u s hx hy Q q => by
  have := dp_str hx
  have := dp_str hy
  subst_vars
  refine .inr ⟨rfl, ?_⟩
  have e : decide (V.str x = V.str y) = decide (x = y) := by
    by_cases h : x = y
    · subst h; simp
    · rw [decide_eq_false h, decide_eq_false (fun z => h (V.str.inj z))]
  rw [e]
  exact q _ H Hm (Gr.refl s) (.bl _)
theorem rd_neS {x y : Str} : RD K (rNeU K) (.str x) (.str y) (.bool (!decide (x = y))) := fun H Hm v u s hx hy Q q => by
  have := dp_str hx
  have := dp_str hy
  subst_vars
  refine .inr ⟨rfl, ?_⟩
  have e : decide (V.str x = V.str y) = decide (x = y) := by
    by_cases h : x = y
    · subst h; simp
    · rw [decide_eq_false h, decide_eq_false (fun z => h (V.str.inj z))]
  rw [e]
  exact q _ H Hm (Gr.refl s) (.bl _)
end

/-! ### data laws -/
theorem dp_it {K : PySem.W.Frag} {ρ : Rho} {te : TE} {x y : Bool} (h : ED K te ρ (.bool x)) (e : x = y) : ED K te ρ (.bool y) := e ▸ h
theorem eqv_int (i j : Int) : PyData.eqv (.int i) (.int j) = decide (i = j) := by rw [PyData.eqv, Bool.beq_eq_decide_eq]
theorem eqv_str (x y : Str) : PyData.eqv (.str x) (.str y) = decide (x = y) := by rw [PyData.eqv, Bool.beq_eq_decide_eq]
theorem eqv_bool (x y : Bool) : PyData.eqv (.bool x) (.bool y) = decide (x = y) := by cases x <;> cases y <;> decide
theorem eqv_list (xs ys : List D) : PyData.eqv (.list xs) (.list ys) = PyData.eqvAll xs ys := by simp [PyData.eqv]
theorem eqv_tup (xs ys : List D) : PyData.eqv (.tuple xs) (.tuple ys) = PyData.eqvAll xs ys := by simp [PyData.eqv]
theorem eqvs_nil (xs : List D) : PyData.eqvAll xs [] = xs.isEmpty := by cases xs <;> simp [PyData.eqvAll]
theorem ints_inj : ∀ {ns ms : List Int}, ns.map PyData.int = ms.map PyData.int → ns = ms
  | [], [], _ => rfl
  | [], _ :: _, h => by cases h
  | _ :: _, [], h => by cases h
  | n :: ns, m :: ms, h => by
    simp only [List.map_cons, List.cons.injEq, PyData.int.injEq] at h
    rw [h.1, ints_inj h.2]
theorem shaped_int (i : Int) : SeqAt.shaped (.int i) = true := by rfl
theorem shaped_bool (i : Bool) : SeqAt.shaped (.bool i) = true := by rfl
/-- fit to be compared, n levels left -/
def fitD (n : Nat) (d : D) : Prop := d.canLay0 = true ∧ d.depth ≤ n
theorem fitD.shaped {n : Nat} {d : D} (h : fitD n d) (hn : n ≤ 64) : SeqAt.shaped d = true := by
  unfold SeqAt.shaped
  rw [h.1, Bool.true_and, decide_eq_true_eq]
  exact Nat.le_trans h.2 hn
theorem fitD.mono {n m : Nat} {d : D} (h : fitD n d) (hn : n ≤ m) : fitD m d := ⟨h.1, Nat.le_trans h.2 hn⟩
theorem lays_mem : ∀ {ds : List D}, PyData.canLayAll0 ds = true ↔ ∀ d ∈ ds, d.canLay0 = true
  | [] => by simp [PyData.canLayAll0]
  | d :: ds => by simp [PyData.canLayAll0, lays_mem (ds := ds)]
theorem deps_mem {n : Nat} : ∀ {ds : List D}, PyData.depthAll ds ≤ n ↔ ∀ d ∈ ds, d.depth ≤ n
  | [] => by simp [PyData.depthAll]
  | d :: ds => by simp [PyData.depthAll, deps_mem (ds := ds), Nat.max_le]
theorem fit_tup {n : Nat} {ds : List D} : fitD (n + 1) (.tuple ds) ↔ ∀ d ∈ ds, fitD n d := by
  unfold fitD
  simp only [PyData.canLay0, PyData.depth, lays_mem, Nat.add_le_add_iff_right, deps_mem]
  exact ⟨fun h d hd => ⟨h.1 d hd, h.2 d hd⟩, fun h => ⟨fun d hd => (h d hd).1, fun d hd => (h d hd).2⟩⟩
theorem fit_lst {n : Nat} {ds : List D} : fitD (n + 1) (.list ds) ↔ ∀ d ∈ ds, fitD n d := by
  unfold fitD
  simp only [PyData.canLay0, PyData.depth, lays_mem, Nat.add_le_add_iff_right, deps_mem]
  exact ⟨fun h d hd => ⟨h.1 d hd, h.2 d hd⟩, fun h => ⟨fun d hd => (h d hd).1, fun d hd => (h d hd).2⟩⟩
theorem fit_T {n : Nat} {t : T} (h : t.depth ≤ n) : fitD n t.data := ⟨T.data_lay t, by rw [T.data_depth]; exact h⟩
theorem fit_int {n : Nat} {i : Int} : fitD n (.int i) := ⟨rfl, by rw [PyData.depth]; exact Nat.zero_le _⟩
theorem fit_bool {n : Nat} {i : Bool} : fitD n (.bool i) := ⟨rfl, by rw [PyData.depth]; exact Nat.zero_le _⟩
theorem fit_str {n : Nat} {i : Str} (h : (PyData.str i).canLay0 = true) : fitD n (.str i) := ⟨h, by rw [PyData.depth]; exact Nat.zero_le _⟩
theorem fit_none {n : Nat} : fitD n .none := ⟨rfl, by rw [PyData.depth]; exact Nat.zero_le _⟩
theorem atI_z {α : Type} {l : List α} {i : Int} {x : α} (h0 : 0 ≤ i) (h : l[i.toNat]? = some x) : atI l i = some x := by
  have := atI_nat h
  rwa [Int.toNat_of_nonneg h0] at this
theorem atI_last {α : Type} {l : List α} {x : α} : atI (l ++ [x]) (-1) = some x := by
  unfold atI ixN
  rw [List.length_append, List.length_singleton, if_neg (by omega), if_pos (by omega)]
  have : ((-1 : Int) + ((l.length + 1 : Nat) : Int)).toNat = l.length := by omega
  show (l ++ [x])[((-1 : Int) + ((l.length + 1 : Nat) : Int)).toNat]? = some x
  rw [this, List.getElem?_append_right (Nat.le_refl _), Nat.sub_self]; rfl
theorem atI_map {α β : Type} {l : List α} {f : α → β} {i : Int} {x : α} (h : atI l i = some x) : atI (l.map f) i = some (f x) := by
  unfold atI at h ⊢
  rw [List.length_map]
  obtain ⟨j, h1, h2⟩ := Option.bind_eq_some_iff.mp h
  rw [h1]
  show (l.map f)[j]? = _
  rw [List.getElem?_map, h2]; rfl
theorem cut_nat {α : Type} (xs : List α) (a b : Nat) : cut xs (some (a : Int)) (some (b : Int)) = (xs.drop a).take (b - a) := by
  unfold cut
  rw [HT.sIx_nat, HT.sIx_nat]
  rcases Nat.le_total a xs.length with h | h
  · rw [Nat.min_eq_left h]
    rcases Nat.le_total b xs.length with h2 | h2
    · rw [Nat.min_eq_left h2]
    · rw [Nat.min_eq_right h2, List.take_of_length_le (by rw [List.length_drop]; omega), List.take_of_length_le (by rw [List.length_drop]; omega)]
  · rw [Nat.min_eq_right h, List.drop_eq_nil_of_le (Nat.le_refl _), List.drop_eq_nil_of_le h, List.take_nil, List.take_nil]
theorem cut_from {α : Type} (xs : List α) (a : Nat) : cut xs (some (a : Int)) none = xs.drop a := by
  unfold cut
  rw [HT.sIx_nat, HT.sIx_none]
  rcases Nat.le_total a xs.length with h | h
  · rw [Nat.min_eq_left h, List.take_of_length_le (by rw [List.length_drop]; omega)]
  · rw [Nat.min_eq_right h, List.drop_eq_nil_of_le (Nat.le_refl _), List.drop_eq_nil_of_le h, List.take_nil]
theorem cut_to {α : Type} (xs : List α) (b : Nat) : cut xs none (some (b : Int)) = xs.take b := by
  unfold cut
  rw [HT.sIx_none, HT.sIx_nat, List.drop_zero, Nat.sub_zero]
  rcases Nat.le_total b xs.length with h | h
  · rw [Nat.min_eq_left h]
  · rw [Nat.min_eq_right h, List.take_of_length_le (Nat.le_refl _), List.take_of_length_le h]
theorem sIx_neg1 (n : Nat) (d : Nat) : HT.sIx n d (some (-1)) = n - 1 := by
  unfold HT.sIx
  simp
  omega
theorem cut_front {α : Type} (xs : List α) : cut xs none (some (-1)) = xs.take (xs.length - 1) := by
  unfold cut
  rw [HT.sIx_none, sIx_neg1, List.drop_zero, Nat.sub_zero]
theorem cut_last {α : Type} (xs : List α) : cut xs (some (-1)) none = xs.drop (xs.length - 1) := by
  unfold cut
  rw [HT.sIx_none, sIx_neg1, List.take_of_length_le (by rw [List.length_drop]; omega)]
end LM
namespace LM
open PySem PySem.Spec PyProof.Rows L2 Evl
section
variable {K : PySem.W.Frag} {ρ ρ' ρ2 : Rho} {ω ω' : Om} {t tu : TS} {d : D} {items : List D} {i j : Nat}
/-- fewer slots are told -/
theorem xd_less (h : XD K t ρ ω (.nx ρ' ω')) (hl : ρ2.length = ρ'.length) (hw : ∀ (i : Nat) (d : D), ρ2[i]? = some (some d) → ρ'[i]? = some (some d)) : XD K t ρ ω (.nx ρ2 ω') := fun H0 Hm0 E σ H Hm S f =>
  h H0 Hm0 E σ H Hm S fun σ' H' Hm' x S' => f σ' H' Hm' x (S'.less hl hw)
theorem xd_lessIn {o : Out} (h : XD K t ρ2 ω o) (hl : ρ2.length = ρ.length) (hw : ∀ (i : Nat) (d : D), ρ2[i]? = some (some d) → ρ[i]? = some (some d)) : XD K t ρ ω o := fun H0 Hm0 E σ H Hm S f =>
  h H0 Hm0 E σ H Hm (S.less hl hw) f
theorem set_less {ρ : Rho} {j : Nat} {x : D} (h : ∀ d : D, ρ[j]? ≠ some (some d)) (i : Nat) (d : D) (e : ρ[i]? = some (some d)) : (ρ.set j (some x))[i]? = some (some d) := by
  have hne : j ≠ i := fun z => h d (z ▸ e)
  rw [List.getElem?_set_ne hne]; exact e
/-- a loop all of whose turns go through; the target's slot is forgotten behind each -/
theorem Go.allF {ρs : Nat → Rho} {ωs : Nat → Om} (hj : ∀ i d, (ρs i)[j]? ≠ some (some d)) (hl : ∀ i, (ρs i).length = (ρs 0).length) (h : ∀ i d, items[i]? = some d → XD K tu ((ρs i).set j (some d)) (ωs i) (.nx ((ρs (i + 1)).set j (some d)) (ωs (i + 1)))) :
    Go K tu j items ρs ωs (.nx (ρs items.length) (ωs items.length)) := Go.all fun i d hd => xd_less (h i d hd) (by rw [List.length_set]) (set_less (hj (i + 1)))
/-- .. of which turn m hands back -/
theorem Go.retF {ρs : Nat → Rho} {ωs : Nat → Om} {m : Nat} {r : D} (hj : ∀ i d, (ρs i)[j]? ≠ some (some d)) (hm : items[m]? = some d) (h : ∀ i d, i < m → items[i]? = some d → XD K tu ((ρs i).set j (some d)) (ωs i) (.nx ((ρs (i + 1)).set j (some d)) (ωs (i + 1))))
    (hr : XD K tu ((ρs m).set j (some d)) (ωs m) (.rt r)) : Go K tu j items ρs ωs (.rt r) :=
  ⟨m, Nat.le_of_lt (List.getElem?_eq_some_iff.mp hm).1, fun i d hi hd => xd_less (h i d hi hd) (by rw [List.length_set]) (set_less (hj (i + 1))), .inr ⟨d, hm, .inl ⟨r, rfl, hr⟩⟩⟩
end
theorem fit_Ts {n : Nat} {ts : List T} (h : T.depths ts ≤ n) : ∀ d ∈ ts.map T.data, fitD n d := fun d hd => by
  obtain ⟨t, ht, rfl⟩ := List.mem_map.mp hd
  exact fit_T (Nat.le_trans (T.depth_mem ht) h)
theorem imms_of : ∀ {ds : List D}, (∀ d ∈ ds, imm d = true) → imms ds = true
  | [], _ => rfl
  | d :: ds, h => by
    rw [imms, h d List.mem_cons_self, imms_of fun x hx => h x (List.mem_cons_of_mem _ hx)]; rfl
mutual
theorem imm_T : ∀ t : T, imm t.data = true
  | .n ts => by rw [T.data, imm]; exact imms_T ts
theorem imms_T : ∀ ts : List T, imms (T.datas ts) = true
  | [] => by rw [T.datas]; rfl
  | t :: ts => by rw [T.datas, imms, imm_T t, imms_T ts]; rfl
end
theorem imms_Ts (ts : List T) : imms (ts.map T.data) = true := by rw [← T.datas_eq]; exact imms_T ts
theorem T.once_app (x : T) : ∀ (l acc : List T), T.once acc (l ++ [x]) = if (T.once acc l).getLast? = some x then T.once acc l else T.once acc l ++ [x]
  | [], acc => rfl
  | y :: l, acc => T.once_app x l _
end LM
namespace LM
open PySem PySem.Spec PyProof.Rows L2 Evl
section
variable {P : Program} {w : World} {K : PySem.W.Frag} {mg : Str → Option Value} {base : Heap} {k : Nat} {x : Str}
/-- a promise of nothing -/
theorem has_none {f : Addr} {fd : FuncData} {ps : List Str} {st : Stmt} {R : List D → D → Prop} (F : Fun K x x st f fd) (b : Binds K fd ps []) (hm : mg x = some (.ref f)) (no : ∀ ds r, ¬ R ds r) : Has P w K mg base k x (SpR K R) := by
  refine ⟨f, fd, ps, ⟨fun vs H Q E h => ?_, fun A outer s H args us vs Q E _ _ _ _ h => ?_⟩, hm, F.kp, b⟩
  · obtain ⟨ds, r, _, _, _, h, _⟩ := h; exact absurd h (no ds r)
  · obtain ⟨ds, r, _, _, _, h, _⟩ := h; exact absurd h (no ds r)
theorem Has.imp {R R' : List D → D → Prop} (h : Has P w K mg base k x (SpR K R)) (im : ∀ ds r, R' ds r → R ds r) : Has P w K mg base k x (SpR K R') := by
  obtain ⟨f, fd, ps, F, a, b, c⟩ := h.ex
  have tr : ∀ vs H Q E, SpR K R' vs H Q E → SpR K R vs H Q E := fun vs H Q E h => by
    obtain ⟨ds, r, Hm, h1, h2, h3, h4⟩ := h
    exact ⟨ds, r, Hm, h1, h2, im ds r h3, h4⟩
  refine ⟨f, fd, ps, ⟨fun vs H Q E h => F.1 vs H Q E (tr _ _ _ _ h), fun A outer s H args us vs Q E h1 h2 h3 h4 h => F.2 A outer s H args us vs Q E h1 h2 h3 h4 (tr _ _ _ _ h)⟩, a, b, c⟩
end
end LM

set_option Elab.async false
set_option linter.all false
set_option maxRecDepth 100000
set_option maxHeartbeats 1000000
/-! Lm8: the rules with what stands at the top named by itself (K), so that they may be used within a comprehension. -/
namespace LM
open PySem PySem.Spec PyProof.Rows L2 Evl
section
variable (K : PySem.W.Frag) {X : Cx} (h : X.K = K)
include h
theorem op_addK : OpR X (binaryOp .Add) (rAddU K) := h ▸ op_addU
theorem op_mulK : OpR X (binaryOp .Mult) (rMulU K) := h ▸ op_mulU
theorem op_eqK (hu : X.A.units + 64 < cLine) : OpR X (compareOp .Eq) (rEqU K) := h ▸ op_eqU hu
theorem op_neK (hu : X.A.units + 64 < cLine) : OpR X (compareOp .NotEq) (rNeU K) := h ▸ op_neU hu
theorem op_ltK (hu : X.A.units + 64 < cLine) : OpR X (compareOp .Lt) (rLtU K) := h ▸ op_ltU hu
theorem op_geK (hu : X.A.units + 64 < cLine) : OpR X (compareOp .GtE) (rGeU K) := h ▸ op_geU hu
theorem op_inDK (hu : X.A.units + 65 < cLine) : OpR X (compareOp .In) (rInD K) := h ▸ op_inD hu
theorem op_notInDK (hu : X.A.units + 65 < cLine) : OpR X (compareOp .NotIn) (rNotInD K) := h ▸ op_notInD hu
theorem ix_K : IxR X (rIx K) := h ▸ ix_seq
theorem sl_K : SlR X (rSlU K) := h ▸ sl_u
theorem call_lenK : CallR X (.builtin "len") (rLen K) := h ▸ call_len_seq
theorem call_isiK' : CallR X (.builtin "isinstance") (rIsi K) := h ▸ call_isi
theorem cr_anyK (hc : X.calm = true) : CallR X (.builtin "any") (rAny K) := h ▸ cr_any hc
theorem cr_allK (hc : X.calm = true) : CallR X (.builtin "all") (rAll K) := h ▸ cr_all hc
theorem cr_sumK (hc : X.calm = true) : CallR X (.builtin "sum") (rSum K) := h ▸ cr_sum hc
theorem cr_maxK (hc : X.calm = true) : CallR X (.builtin "max") (rMax K) := h ▸ cr_max hc
theorem cr_minK (hc : X.calm = true) : CallR X (.builtin "min") (rMin K) := h ▸ cr_min hc
theorem call_listK : CallR X (.type "list") (rLstOf K) := h ▸ call_list_of
theorem call_tupleK : CallR X (.type "tuple") (rTupOf K) := h ▸ call_tuple_of
theorem cr_sortedK (hu : X.A.units + 100 < cLine) : CallR X (.builtin "sorted") (rSortTr K) := h ▸ cr_sortedTr hu
theorem pi_listK {tg l : Expr} {tl : TE} (hl : PE X l tl) : PI X tg l (iList K tl) := h ▸ pi_list hl
theorem pi_tupK {tg l : Expr} {tl : TE} (hl : PE X l tl) : PI X tg l (iTup K tl) := h ▸ pi_tup hl
theorem pe_joinK {o e : Expr} {to te : TE} {apos pos : Pos} (ho : PE X o to) (he : PE X e te) (hs : starEach [e] X.env = [(false, eval e X.env)] := by rfl) (hbase : attributeBase o "join" X.env (eval o X.env) = eval o X.env := by rfl) (hline : (apos.endLine == pos.line) = true := by rfl) :
    PE X (.Call (.Attribute o "join" apos) [e] [] pos) (tM1 (rJoin K) to te) := h ▸ pe_join ho he hs hbase hline
theorem pe_bmK {T : String} {name : Str} {o e : Expr} {es : List Expr} {to : TE} {t : TA} {r : V → List V → Hp → VK → Prop} {apos pos : Pos} (x : PE X (.Call (.Attribute o name apos) (e :: es) [] pos) (tBM X.K T r to t)) : PE X (.Call (.Attribute o name apos) (e :: es) [] pos) (tBM K T r to t) := h ▸ x
theorem pi_zipK {e e2 : Expr} {ta : TA} {p pos tpos : Pos} {elts : List Expr} {kk : Nat} (hg : Gl X "zip") (hm : X.mg "zip" = none) (ha : PA X [e, e2] ta)
    (hs : starEach [e, e2] X.env = (false, eval e X.env) :: starEach [e2] X.env := by rfl) (hpl : (backTo pos (starEach [e2] X.env)).any (·.1) = false := by rfl) :
    PI X (.Tuple elts kk tpos) (.Call (.Name "zip" p) [e, e2] [] pos) (RZ.iZipA K ta) := h ▸ RZ.pi_zipA hg hm ha hs hpl
theorem pg_tupK {es : List Expr} {kk : Nat} {pos : Pos} {t : TGs} {n : Nat} (hg : PG X (.Tuple es kk pos) (gTup X.K n t)) : PG X (.Tuple es kk pos) (gTup K n t) := h ▸ hg
/-- t[::-1] -/
theorem mt_extK : MtM X "list.extend" (rExtA K) := h ▸ mt_extA
end
/-! ### t[::-1] -/
section
variable {prog : Program} {w : World} {A : Around} {E : Value → Shared → Prop} {s : Shared}
theorem adj_rev (n : Int) : Builtin.Slice.sliceAdjust none none (-1) n = (n - 1, -1) := by
  unfold Builtin.Slice.sliceAdjust
  simp
theorem places_rev (n : Nat) : Builtin.Slice.slicePlaces ((n : Int) - 1) (-1) (-1) = n := by
  unfold Builtin.Slice.slicePlaces
  rw [if_neg (by decide)]
  split
  · rw [show -(-1 : Int) = 1 from rfl, Int.ediv_one]; omega
  · omega
theorem pick_rev (xs : List Value) : (List.range xs.length).filterMap (fun (m : Nat) => xs.toArray[(((xs.length : Nat) : Int) - 1 + (m : Int) * (-1)).toNat]?) = xs.reverse := by
  have key : ∀ k, k ≤ xs.length → (List.range k).filterMap (fun (m : Nat) => xs.toArray[(((xs.length : Nat) : Int) - 1 + (m : Int) * (-1)).toNat]?) = xs.reverse.take k := by
    intro k
    induction k with
    | zero => intro _; rfl
    | succ k ih =>
      intro hk
      have e : (((xs.length : Nat) : Int) - 1 + (k : Int) * (-1)).toNat = xs.length - 1 - k := by omega
      have g : xs.reverse[k]? = xs[xs.length - 1 - k]? := List.getElem?_reverse hk
      have h2 : xs.length - 1 - k < xs.length := by omega
      rw [List.range_succ, List.filterMap_append, ih (by omega), List.take_add_one, g, List.getElem?_eq_getElem h2]
      congr 1
      rw [List.filterMap_cons, List.filterMap_nil, e]
      simp [h2]
  have := key xs.length (Nat.le_refl _)
  rwa [List.take_of_length_le (by rw [List.length_reverse]; exact Nat.le_refl _)] at this
theorem applied_rev {sl : Addr} {vl vu vs : Value} {n : Nat} {Q : Int × Int × Nat → Shared → Prop} (hs : s.heap.IsSliceOf sl vl vu vs) (pl : IsPart vl none) (pu : IsPart vu none) (ps : IsPart vs (some (-1))) (q : Q ((n : Int) - 1, -1, n) s) :
    wpAny (model prog w) A (Builtin.Slice.sliceApplied (.ref sl) (pure (n : Int))) Q E s := by
  obtain ⟨o, h1, h2, h3⟩ := hs
  unfold Builtin.Slice.sliceApplied Builtin.Slice.sliceFields
  refine wpAny_bind (wpAny_bind (wpAny_field h1 h3 (x := vl) rfl (wpAny_bind (wpAny_field h1 h3 (x := vu) rfl (wpAny_bind (wpAny_field h1 h3 (x := vs) rfl (wpAny_pure ?_)))))))
  refine wpAny_bind (HT.slicePart_ ps ?_)
  show wpAny _ _ (if ((-1 : Int) == 0) = true then _ else _) _ _ s
  rw [if_neg (by decide)]
  refine wpAny_bind (HT.slicePart_ pl (wpAny_bind (HT.slicePart_ pu (wpAny_bind (wpAny_pure ?_)))))
  show wpAny _ _ (match Builtin.Slice.sliceAdjust none none (-1) (n : Int) with | (lo, hi) => pure (lo, (-1 : Int), Builtin.Slice.slicePlaces lo hi (-1))) _ _ s
  rw [adj_rev]
  show wpAny _ _ (pure ((n : Int) - 1, (-1 : Int), Builtin.Slice.slicePlaces ((n : Int) - 1) (-1) (-1))) _ _ s
  rw [places_rev]
  exact wpAny_pure q
theorem getItem_rev {t sl : Addr} {its : List Value} {vl vu vs : Value} {Q : Value → Shared → Prop} (ht : IsTup s.heap t its.toArray) (hs : s.heap.IsSliceOf sl vl vu vs) (pl : IsPart vl none) (pu : IsPart vu none) (ps : IsPart vs (some (-1)))
    (hz : its.length ≤ sizeLine) (q : Q (.ref s.heap.objs.size) { s with heap := s.heap.push { cls := .type "tuple", data := .seq its.reverse.toArray } }) : wpAny (model prog w) A (getItem (.ref t) (.ref sl)) Q E s := by
  have hsz : sizeOk (.seq its.reverse.toArray) := by
    show its.reverse.toArray.size ≤ sizeLine
    rw [List.size_toArray, List.length_reverse]; exact hz
  have isl : s.TypeIs (.ref sl) "slice" := by
    obtain ⟨o, h1, h2, _⟩ := id hs
    exact ⟨o, h1, h2⟩
  unfold getItem
  try with_reducible refine wpAny_holding ?_
  first | refine wpAny_bind (wpAny_pure ?_) | skip
  refine wpAny_bind (wpAny_sequenceKey ht.typeIs (by decide) (wpAny_bind (wpAny_callSpecial?_slot (name := Str.ofString "__getitem__") ht.typeIs PyProof.Rows.slot_tuple_getitem (wpAny_call_entry PyProof.Rows.slot_tuple_getitem ht.typeIs entry_tuple_getitem ?_ (args_tuple_getitem _ _)))))
  show wpAny _ _ (Builtin.Tuple.tupleItemsOf (.ref t) >>= _) _ _ s
  refine wpAny_bind (tupleItemsOf_ ht (wpAny_bind (wpAny_typeOf isl ?_)))
  rw [if_pos (by decide)]
  have e0 : (its.toArray.size : Nat) = its.length := List.size_toArray
  rw [e0]
  refine wpAny_bind (applied_rev hs pl pu ps ?_)
  show wpAny _ _ (if (((its.length : Nat) : Int) - 1 == 0 && (-1 : Int) == 1 && its.length == its.toArray.size) = true then _ else _) _ _ s
  rw [if_neg (by simp), pick_rev]
  first
    | exact wpAny_bind (m := Builtin.Tuple.tupleExact _) (wpAny_newObj_type (wpAny_pure ⟨_, rfl, wpAny_pure q⟩) hsz)
    | exact wpAny_bind (m := Builtin.Tuple.tupleExact _) (wpAny_newObj_type (wpAny_bind (wpAny_pure (wpAny_pure ⟨_, rfl, wpAny_pure q⟩))) hsz)
    | exact wpAny_bind (wpAny_bind (m := Builtin.Tuple.tupleExact _) (wpAny_newObj_type (wpAny_pure (wpAny_pure ⟨_, rfl, wpAny_pure q⟩)) hsz))
end
def tRevT (K : PySem.W.Frag) (te : TE) : TE := fun σ H Q => te σ H fun x H1 => ∃ a xs, x = .ref a ∧ SqT K H1 a xs ∧ ∀ p, H1 p = none → Q (.ref p) (upd H1 p (.tup xs.reverse))
theorem pe_revT (K : PySem.W.Frag) {X : Cx} (hK : X.K = K) {e : Expr} {te : TE} {k : Nat} {p1 p2 p3 pos : Pos} (he : PE X e te) : PE X (.Subscript e (.Slice none none (some (.UnaryOp .USub (.Constant (.int 1) k p1) p2)) p3) pos) (tRevT K te) := by
  subst hK
  refine ⟨fun pins s σ H Q I h => Subscript_ (thn (he.run pins s σ H _ I h) fun v s1 ⟨x, H1, I1, r1, a, xs, ex, hx, q⟩ => ?_)⟩
  subst ex
  cases r1
  have st : PO X (some (.UnaryOp .USub (.Constant (.int 1) k p1) p2)) (tPart (tUn (rU fun i => .int (-i)) (tC (.int 1)))) := po_some (pe_un un_neg pe_int)
  refine wpAny_Slice (thn (po_none.run pins s1 σ H1 (fun o H2 => o = none ∧ H2 = H1) I1 ⟨rfl, rfl⟩) fun v1 s2 ⟨o1, H2, I2, d1, e1, f1⟩ => ?_)
  subst e1 f1
  refine thn (po_none.run pins s2 σ H2 (fun o H3 => o = none ∧ H3 = H2) I2 ⟨rfl, rfl⟩) fun v2 s3 ⟨o2, H3, I3, d2, e2, f2⟩ => ?_
  subst e2 f2
  refine thn (st.run pins s3 σ H3 (fun o H4 => o = some (-1) ∧ H4 = H3) I3 ⟨1, rfl, -1, rfl, rfl, rfl⟩) fun v3 s4 ⟨o3, H4, I4, d3, e3, f3⟩ => ?_
  subst e3 f3
  have J : Inv X pins σ H4 { s4 with heap := s4.heap.push { cls := .type "slice", data := .fields #[v1, v2, v3] } } := I4.kept (t' := s4.toks) fun b ob z => Heap.get?_push_of_some _ z
  obtain ⟨its, r, ht, hz⟩ := J.tuple hx
  show wpAny (model X.prog X.w) X.A (subscriptTail e (.Slice none none (some (.UnaryOp .USub (.Constant (.int 1) k p1) p2)) p3) (.ref a) (.ref s4.heap.objs.size)) (EP X pins σ Q) X.xe { s4 with heap := s4.heap.push { cls := .type "slice", data := .fields #[v1, v2, v3] } }
  refine tail_any (ops := [.ref a, .ref s4.heap.objs.size]) ht.typeIs PyProof.Rows.slot_tuple_getitem.lookup ?_ (by with_unfolding_all rfl)
  refine getItem_rev ht (Heap.IsSliceOf.new _ v1 v2 v3) d1 d2 d3 (by rw [← r.length]; exact hz) ?_
  refine ⟨.ref _, _, J.laid (t' := s4.toks) (o := .tup xs.reverse) (fun b ob z => Heap.get?_push_of_some _ z) (Nat.le_refl _) ?_, rfl, q _ (J.hok.fresh (Nat.le_refl _))⟩
  exact ⟨by rw [List.length_reverse]; exact hz, _, r.reverse, IsTup.new _ _⟩
theorem dps_rev {K : PySem.W.Frag} {H : Hp} : ∀ {vs : List V} {ds : List D}, DpAll K H vs ds → DpAll K H vs.reverse ds.reverse
  | _, _, .nil => .nil
  | _, _, .cons h t => by
    rw [List.reverse_cons, List.reverse_cons]
    exact (dps_rev t).snoc h
theorem ed_revT {K : PySem.W.Frag} {ρ : Rho} {te : TE} {ds : List D} (h : ED K te ρ (.tuple ds)) : ED K (tRevT K te) ρ (.tuple ds.reverse) := fun σ H Hm s l hs Q q =>
  h σ H Hm s l hs _ fun v H1 Hm1 g1 d1 => by
    obtain ⟨a, xs, rfl, hx, ha⟩ := dp_tup d1
    exact ⟨a, xs, rfl, ex_t g1.sub hx, fun p hp => q _ _ _ (g1.trans (Gr.new g1.sub hp)) (.tup (.inl (.inl upd_same)) ((dps_rev ha).mono (Ex.new (fresh_back g1.sub hp))))⟩
end LM
namespace LM
open PySem PySem.Spec PyProof.Rows L2 Evl
section
variable {K : PySem.W.Frag} {ρ : Rho} {ω : Om} {tu : TS} {items : List D} {j : Nat} {r : D}
theorem first_bad {ok : D → Bool} : ∀ {items : List D}, items.all ok = false → ∃ (m : Nat) (d : D), items[m]? = some d ∧ ok d = false ∧ ∀ (i : Nat) (e : D), i < m → items[i]? = some e → ok e = true
  | [], h => by cases h
  | x :: xs, h => by
    cases hx : ok x with
    | false => exact ⟨0, x, rfl, hx, fun i e hi _ => by omega⟩
    | true =>
      rw [List.all_cons, hx, Bool.true_and] at h
      obtain ⟨m, d, h1, h2, h3⟩ := first_bad h
      refine ⟨m + 1, d, by simpa using h1, h2, fun i e hi he => ?_⟩
      cases i with
      | zero =>
        have : x = e := by simpa using he
        rw [← this]; exact hx
      | succ i => exact h3 i e (by omega) (by simpa using he)
/-- for x in xs: if x is bad: return r -/
theorem Go.check {ok : D → Bool} (hj : ∀ d : D, ρ[j]? ≠ some (some d)) (h : ∀ d ∈ items, XD K tu (ρ.set j (some d)) ω (if ok d = true then .nx (ρ.set j (some d)) ω else .rt r)) :
    Go K tu j items (fun _ => ρ) (fun _ => ω) (if items.all ok = true then .nx ρ ω else .rt r) := by
  cases hb : items.all ok with
  | true =>
    rw [if_pos rfl]
    refine Go.allF (fun _ => hj) (fun _ => rfl) fun i d hd => ?_
    have hm := List.mem_of_getElem? hd
    have := h d hm
    rwa [if_pos (List.all_eq_true.mp hb d hm)] at this
  | false =>
    rw [if_neg Bool.false_ne_true]
    obtain ⟨m, d, h1, h2, h3⟩ := first_bad hb
    refine Go.retF (fun _ => hj) h1 (fun i e hi he => ?_) ?_
    · have := h e (List.mem_of_getElem? he)
      rwa [if_pos (h3 i e hi he)] at this
    · have := h d (List.mem_of_getElem? h1)
      rwa [h2, if_neg Bool.false_ne_true] at this
end
/-! ### how large data are -/
mutual
def sz : D → Nat
  | .tuple ds => szs ds + 1
  | .list ds => szs ds + 1
  | .none => 1
  | .bool _ => 1
  | .int _ => 1
  | .str _ => 1
  | .dict _ => 1
def szs : List D → Nat
  | [] => 0
  | d :: ds => sz d + szs ds
end
theorem sz_pos (d : D) : 1 ≤ sz d := by cases d <;> simp [sz]
theorem sz_mem {d : D} : ∀ {ds : List D}, d ∈ ds → sz d ≤ szs ds
  | [], h => by cases h
  | x :: xs, h => by
    rw [szs]
    rcases List.mem_cons.mp h with e | h
    · rw [e]; omega
    · have := sz_mem h; omega
theorem len_szs : ∀ ds : List D, ds.length ≤ szs ds
  | [] => Nat.zero_le _
  | d :: ds => by
    have := sz_pos d
    have := len_szs ds
    rw [szs, List.length_cons]; omega
theorem szs_app : ∀ ds es : List D, szs (ds ++ es) = szs ds + szs es
  | [], es => by simp [szs]
  | d :: ds, es => by rw [List.cons_append, szs, szs, szs_app ds es]; omega
theorem szs_take (ds : List D) (n : Nat) : szs (ds.take n) ≤ szs ds := by
  have h := szs_app (ds.take n) (ds.drop n)
  rw [List.take_append_drop] at h; omega
theorem szs_drop (ds : List D) (n : Nat) : szs (ds.drop n) ≤ szs ds := by
  have h := szs_app (ds.take n) (ds.drop n)
  rw [List.take_append_drop] at h; omega
/-! ### data read as trees -/
mutual
def ofD : D → T
  | .tuple ds => .n (ofDs ds)
  | .list _ => .n []
  | .none => .n []
  | .bool _ => .n []
  | .int _ => .n []
  | .str _ => .n []
  | .dict _ => .n []
def ofDs : List D → List T
  | [] => []
  | d :: ds => ofD d :: ofDs ds
end
theorem ofDs_eq : ∀ ds : List D, ofDs ds = ds.map ofD
  | [] => rfl
  | d :: ds => by rw [ofDs, ofDs_eq ds]; rfl
mutual
theorem ofD_data : ∀ t : T, ofD t.data = t
  | .n ts => by rw [T.data, ofD, ofDs_datas ts]
theorem ofDs_datas : ∀ ts : List T, ofDs (T.datas ts) = ts
  | [] => by rw [T.datas, ofDs]
  | t :: ts => by rw [T.datas, ofDs, ofD_data t, ofDs_datas ts]
end
theorem ofDs_map (ts : List T) : (ts.map T.data).map ofD = ts := by rw [← ofDs_eq, ← T.datas_eq, ofDs_datas]
/-- consecutive ones compared -/
def zl : List T → List Bool
  | [] => []
  | [_] => []
  | x :: y :: r => T.lt x y :: zl (y :: r)
def ascB (ts : List T) : Bool := (zl ts).all id
theorem ascB_iff : ∀ ts : List T, ascB ts = true ↔ T.Asc ts
  | [] => by simp [ascB, zl, T.Asc]
  | [x] => by simp [ascB, zl, T.Asc]
  | x :: y :: r => by
    have ih := ascB_iff (y :: r)
    have e : ascB (x :: y :: r) = (T.lt x y && ascB (y :: r)) := by unfold ascB; rw [zl, List.all_cons]; rfl
    rw [e, Bool.and_eq_true, ih]
    unfold T.Asc
    rw [List.pairwise_cons (a := x)]
    constructor
    · rintro ⟨h1, h2⟩
      refine ⟨fun z hz => ?_, h2⟩
      rcases List.mem_cons.mp hz with e | hz
      · rw [e]; exact h1
      · exact T.lt_trans h1 ((List.pairwise_cons.mp h2).1 z hz)
    · rintro ⟨h1, h2⟩
      exact ⟨h1 y List.mem_cons_self, h2⟩
def okRow (g : D → Bool) : D → Bool
  | .tuple gs => gs.all g && ascB (gs.map ofD)
  | _ => false
def okG : Nat → D → Bool
  | 0, _ => false
  | f + 1, d => match d with
    | .tuple [a, b] => okRow (okG f) a && okRow (okG f) b
    | _ => false
theorem okRow_T {g : D → Bool} {m : Nat} (h : ∀ d, g d = true → d = (ofD d).data ∧ (ofD d).depth ≤ m) {d : D} (hd : okRow g d = true) : ∃ ts : List T, d = .tuple (ts.map T.data) ∧ ts = (match d with | .tuple gs => gs.map ofD | _ => []) ∧ T.depths ts ≤ m ∧ ascB ts = true := by
  cases d with
  | tuple gs =>
    simp only [okRow, Bool.and_eq_true, List.all_eq_true] at hd
    refine ⟨gs.map ofD, ?_, rfl, ?_, hd.2⟩
    · congr 1
      rw [List.map_map]
      conv => lhs; rw [← List.map_id gs]
      exact List.map_congr_left fun d hx => (h d (hd.1 d hx)).1
    · refine T.depths_le fun t ht => ?_
      obtain ⟨d, hx, rfl⟩ := List.mem_map.mp ht
      exact (h d (hd.1 d hx)).2
  | _ => simp [okRow] at hd
theorem okG_T : ∀ (f : Nat) (d : D), okG f d = true → d = (ofD d).data ∧ (ofD d).depth ≤ 2 * f
  | 0, d, h => by simp [okG] at h
  | f + 1, d, h => by
    unfold okG at h
    split at h
    · rename_i a b
      rw [Bool.and_eq_true] at h
      obtain ⟨ls, rfl, -, d1, -⟩ := okRow_T (okG_T f) h.1
      obtain ⟨rs, rfl, -, d2, -⟩ := okRow_T (okG_T f) h.2
      have e : ofD (.tuple [.tuple (ls.map T.data), .tuple (rs.map T.data)]) = .n [.n ls, .n rs] := by
        rw [ofD, ofDs, ofDs, ofDs, ofD, ofD, ofDs_eq, ofDs_eq, ofDs_map, ofDs_map]
      rw [e]
      refine ⟨by rw [T.data_n, List.map_cons, List.map_cons, List.map_nil, T.data_n, T.data_n], ?_⟩
      simp only [T.depth, T.depths]
      omega
    · cases h
end LM
namespace LM
open PySem PySem.Spec PyProof.Rows L2 Evl
section
variable {K : PySem.W.Frag} {ρ : Rho} {ω : Om} {tu w : TS} {tl te : TE} {tt : TT} {items : List D} {j : Nat} {r : D} {o : Out}
theorem xd_checkT (ok : D → Bool) (r : D) (hsrc : ED K tl (vw ρ ω) (.tuple items)) (hd : ω = none ∨ imms items = true := by first | exact .inl rfl | exact .inr (by rfl) | exact .inr (by assumption)) (hw : ∀ q, ω = some q → q.1 ≠ j := by first | (intro _ h; cases h; done) | (intro _ h; cases h; decide)) (hj : ∀ d : D, ρ[j]? ≠ some (some d) := by simp)
    (turn : ∀ d ∈ items, XD K tu (ρ.set j (some d)) ω (if ok d = true then .nx (ρ.set j (some d)) ω else .rt r)) (rest : items.all ok = true → XD K w ρ ω o) (fin : items.all ok = false → o = .rt r) : XD K (tSeq (tFor (iTup K tl) (gName j) tu) w) ρ ω o := by
  have g := Go.check hj turn
  cases hb : items.all ok with
  | true =>
    rw [hb, if_pos rfl] at g
    exact xd_seq (xd_forT (fun _ => ρ) (fun _ => ω) hsrc hd rfl rfl (fun _ => hw) g) (rest hb)
  | false =>
    rw [hb, if_neg Bool.false_ne_true] at g
    rw [fin hb]
    exact xd_seq_rt (xd_forT (fun _ => ρ) (fun _ => ω) hsrc hd rfl rfl (fun _ => hw) g)
theorem xd_checkL (ok : D → Bool) (r : D) (hsrc : ED K tl ρ (.list items)) (hw : ∀ q, ω = some q → q.1 ≠ j := by first | (intro _ h; cases h; done) | (intro _ h; cases h; decide)) (hj : ∀ d : D, ρ[j]? ≠ some (some d) := by simp)
    (turn : ∀ d ∈ items, XD K tu (ρ.set j (some d)) ω (if ok d = true then .nx (ρ.set j (some d)) ω else .rt r)) (rest : items.all ok = true → XD K w ρ ω o) (fin : items.all ok = false → o = .rt r) : XD K (tSeq (tFor (iList K tl) (gName j) tu) w) ρ ω o := by
  have g := Go.check hj turn
  cases hb : items.all ok with
  | true =>
    rw [hb, if_pos rfl] at g
    exact xd_seq (xd_forL (fun _ => ρ) (fun _ => ω) hsrc rfl rfl (fun _ => hw) g) (rest hb)
  | false =>
    rw [hb, if_neg Bool.false_ne_true] at g
    rw [fin hb]
    exact xd_seq_rt (xd_forL (fun _ => ρ) (fun _ => ω) hsrc rfl rfl (fun _ => hw) g)
/-- if bad: return r -/
theorem xd_guard {ok : Bool} (h : ET K tt (vw ρ ω) (!ok)) (hr : ED K te (vw ρ ω) r) : XD K (tIfS tt (tRet te) tNext) ρ ω (if ok = true then .nx ρ ω else .rt r) := by
  cases ok with
  | true => exact xd_ifF h xd_next
  | false => exact xd_ifT h (xd_ret hr)
/-- .. with more behind -/
theorem xd_guards {ok ok2 : Bool} {ρ2 : Rho} {ω2 : Om} (h : ET K tt (vw ρ ω) (!ok)) (hr : ED K te (vw ρ ω) r) (k : ok = true → XD K w ρ ω (if ok2 = true then .nx ρ2 ω2 else .rt r)) : XD K (tSeq (tIfS tt (tRet te) tNext) w) ρ ω (if (ok && ok2) = true then .nx ρ2 ω2 else .rt r) := by
  cases ok with
  | true => exact xd_seq (xd_ifF h xd_next) (by simpa using k rfl)
  | false => exact xd_seq_rt (xd_ifT h (xd_ret hr))
end
end LM
namespace LM
theorem cut_from1 {α : Type} (xs : List α) : cut xs (some 1) none = xs.drop 1 := cut_from xs 1
end LM
namespace LM
open PySem PySem.Spec PyProof.Rows L2 Evl
theorem ed_rd_is {K : PySem.W.Frag} {r : R2} {a b c d : D} (h : RD K r a b c) (e : c = d) : RD K r a b d := e ▸ h
theorem ed_B_is {K : PySem.W.Frag} {ρ : Rho} {tt : TT} {x y : Bool} (h : ET K tt ρ x) (e : x = y) : ET K tt ρ y := e ▸ h
end LM
namespace LM
open PySem PySem.Spec PyProof.Rows L2 Evl
theorem et_andF {K : PySem.W.Frag} {ρ : Rho} {t u : TT} {x : Bool} (h : ET K t ρ x) (e : x = false) : ET K (tAnd t u) ρ false := by
  subst e
  exact et_and (x := false) (y := false) h fun z => by cases z
theorem et_orT {K : PySem.W.Frag} {ρ : Rho} {t u : TT} {x : Bool} (h : ET K t ρ x) (e : x = true) : ET K (tOr t u) ρ true := by
  subst e
  exact et_or (x := true) (y := true) h fun z => by cases z
end LM
namespace LM
open PySem PySem.Spec PyProof.Rows L2 Evl
/-- a def's promise at its own address -/
theorem fn_of {P : Program} {w : World} {K : PySem.W.Frag} {mg : Str → Option Value} {base : Heap} {x : Str} {st : Stmt} {f : Addr} {fd : FuncData} {N ps : List Str} {k : Nat} {R : List D → D → Prop} (F : Fun K x x st f fd) (S : FnScope N ps (defScope st)) (hN : ps.length ≤ N.length) (len : ∀ ds r, R ds r → ds.length = ps.length)
    (hbody : ∀ (cdv : Value) (A : Around) (outer : List Env) (s : Shared) (H : Hp) (E : XK), Room k (A.deeper (envOfC x (defScope st) s.heap.objs.size f cdv)) →
      ∃ t, PSs (cxOf CX0 P w K mg base N x (defScope st) f cdv A outer s H E).nox (defBody st) t ∧ ∀ ds r, R ds r → XD K t (startR N ds) none (.rt r)) : FnOk P w K mg base CX0 (k + 1) f fd ps (SpR K R) := by
  refine F.ok S (fun vs H Q E h => ?_) (fun cdv A outer s H vs Q E hr h => ?_)
  · obtain ⟨ds, r, Hm, _, hd, hR, _⟩ := h
    rw [hd.len, len ds r hR]
  · obtain ⟨t, h1, h2⟩ := hbody cdv A outer s H E hr
    obtain ⟨ds, r, Hm, s1, hd, hR, q⟩ := h
    have hl := len ds r hR
    refine ⟨t, h1, h2 ds r hR H Hm _ (L2.start N vs) H Hm ⟨Gr.refl s1, ?_, start_sd hd, trivial⟩ fun v H' Hm' g hv => q v H' Hm' g hv⟩
    rw [startR_len (by omega)]
    have := hd.len
    unfold L2.start
    rw [List.length_append, List.length_map, List.length_replicate]
    omega
end LM

set_option Elab.async false
set_option linter.all false
set_option maxRecDepth 100000
set_option maxHeartbeats 1000000
/-! LmX: errors of own classes, by data: defs that hand back a value or let an error out; raise; try. -/
namespace LM
open PySem PySem.Spec PyProof.Rows L2 Evl
/-- an error's class, as the top knows it -/
structure XCls (K : PySem.W.Frag) (mg : Str → Option Value) (x : Str) (C : Addr) : Prop where
  gC : mg x = some (.ref C)
  kC : PySem.W.keepIn K (.ref C) = true
  xC : PySem.W.excIn K C [.type "ValueError", .type "Exception", .type "BaseException", .type "object"] "ValueError.__new__" = true
  bC : PySem.W.subIn K (.ref C) (.type "BaseException") = some true
  tC : PySem.W.typeIn K (.ref C) = some (.type "type")
  dC : PySem.W.hasDictIn K C = true
abbrev Res := D ⊕ Addr
def ResOk (K : PySem.W.Frag) (H Hm : Hp) (Q : VK) (E : XK) : Res → Prop
  | .inl r => ∀ v H2 Hm2, Gr H Hm H2 Hm2 → Dp K Hm2 v r → Q v H2
  | .inr C => ∀ H2 Hm2, Gr H Hm H2 Hm2 → E (.ref C) none H2
/-- a promise: a value, or an error -/
def SpX (K : PySem.W.Frag) (R : List D → Res → Prop) : Sp := fun vs H Q E => ∃ ds o Hm, Ex Hm H ∧ DpAll K Hm vs ds ∧ R ds o ∧ ResOk K H Hm Q E o
structure HasX (P : Program) (w : World) (K : PySem.W.Frag) (mg : Str → Option Value) (base : Heap) (k : Nat) (x : Str) (sp : Sp) : Prop where
  ex : ∃ f fd ps, FnOk P w K mg base (L2.CX P w) k f fd ps sp ∧ mg x = some (.ref f) ∧ PySem.W.keepIn K (.ref f) = true ∧ Binds K fd ps []
theorem HasX.mono {P : Program} {w : World} {K : PySem.W.Frag} {mg : Str → Option Value} {base : Heap} {j k : Nat} {x : Str} {sp : Sp} (h : HasX P w K mg base j x sp) (hk : j ≤ k) : HasX P w K mg base k x sp :=
  let ⟨f, fd, ps, F, a, b, c⟩ := h.ex
  ⟨f, fd, ps, F.mono hk, a, b, c⟩
theorem passX0 {X : Cx} : Passes (L2.CX X.prog X.w) X E0 := fun _ _ _ _ _ _ _ h => by
  obtain ⟨_, _, _, _, _, _, _, _, _, _, _, _, h⟩ := h
  exact h.elim
section
variable {X : Cx} {k j : Nat} {x : Str} {sp : Sp} {e : Expr} {es : List Expr} {p pos : Pos} {t : TA}
/-- a call that hands back a value -/
theorem pe_hx (c : HasX X.prog X.w X.K X.mg X.base k x sp) (hr : Room j X.A) (hk : k ≤ j) (hg : Gl X x) (ha : PA X (e :: es) t)
    (hd : (x == ("__debug__" : Str)) = false := by decide) (hs : starEach (e :: es) X.env = (false, eval e X.env) :: starEach es X.env := by rfl) (hpl : (backTo pos (starEach es X.env)).any (·.1) = false := by rfl) :
    PE X (.Call (.Name x p) (e :: es) [] pos) (tCall sp [] E0 t) := by
  obtain ⟨f, fd, ps, F, hm, kp, b⟩ := c.ex
  exact pe_call F (hr.mono hk) hg hm kp b .nil passX0 ha (hdb := hd) (he := hs) (hpl := hpl)
/-- .. that may let an error out -/
theorem pe_hs {W : WX} (c : HasX X.prog X.w X.K X.mg X.base k x sp) (tk : Takes X W) (hr : Room j X.A) (hk : k ≤ j) (hg : Gl X x) (ha : PA X (e :: es) t)
    (hd : (x == ("__debug__" : Str)) = false := by decide) (hs : starEach (e :: es) X.env = (false, eval e X.env) :: starEach es X.env := by rfl) (hpl : (backTo pos (starEach es X.env)).any (·.1) = false := by rfl) :
    PE X (.Call (.Name x p) (e :: es) [] pos) (tCallS sp (WE W) t) := by
  obtain ⟨f, fd, ps, F, hm, kp, b⟩ := c.ex
  exact pe_callS F (hr.mono hk) hg hm kp b (fun σ => passAt tk σ) ha (hdb := hd) (he := hs) (hpl := hpl)
/-- raise x('m') -/
def tRaise (W : WX) (C : Addr) : TS := fun _ σ H => W (.ref C) none σ H
theorem ps_raiseC {W : WX} {C : Addr} {m : Str} {jj : Nat} {p2 pos2 : Pos} (hc : X.calm = true) (tk : Takes X W) (T : XCls X.K X.mg x C) (hg : Gl X x) (hdb : (x == ("__debug__" : Str)) = false := by decide) :
    PS X (.Raise (some (.Call (.Name x p) [.Constant (.str m) jj p2] [] pos)) none pos2) (tRaise W C) :=
  ps_raise hc tk (pmk_own PySem.F.excBase_ValueError T.xC T.gC T.kC (raises_own T.bC T.tC) hg hdb)
end
section
variable {K : PySem.W.Frag} {ρ ρ' ρ2 : Rho} {ω ω' ω2 : Om} {o : Out} {t u : TS} {te : TE} {ta : TA} {tt : TT} {d : D} {ds : List D} {i j : Nat} {W : WX} {C : Addr}
/-- a value of a call with a promise SpX -/
theorem ed_callX {R : List D → Res → Prop} {E : XK} (h : EDs K ta ρ ds) (hr : R ds (.inl d)) : ED K (tCall (SpX K R) [] E ta) ρ d := fun σ H Hm s l hs Q q =>
  h σ H Hm s l hs _ fun xs H1 Hm1 g1 h1 => by
    show SpX K R (xs ++ []) H1 Q E
    rw [List.append_nil]
    exact ⟨ds, .inl d, Hm1, g1.sub, h1, hr, fun v H2 Hm2 g2 h2 => q v H2 Hm2 (g1.trans g2) h2⟩
theorem ed_callS {R : List D → Res → Prop} {E : L2.St → XK} (h : EDs K ta ρ ds) (hr : R ds (.inl d)) : ED K (tCallS (SpX K R) E ta) ρ d := fun σ H Hm s l hs Q q =>
  h σ H Hm s l hs _ fun xs H1 Hm1 g1 h1 => ⟨ds, .inl d, Hm1, g1.sub, h1, hr, fun v H2 Hm2 g2 h2 => q v H2 Hm2 (g1.trans g2) h2⟩
/-- an expression that lets an error out -/
def ER (K : PySem.W.Frag) (W : WX) (C : Addr) (te : TE) (ρ : Rho) : Prop := ∀ σ H Hm, Ex Hm H → ρ.length ≤ σ.length → Sd K Hm σ ρ → (∀ H2 Hm2, Gr H Hm H2 Hm2 → W (.ref C) none σ H2) → ∀ Q : VK, te σ H Q
theorem er_callS {R : List D → Res → Prop} (h : EDs K ta ρ ds) (hr : R ds (.inr C)) : ER K W C (tCallS (SpX K R) (WE W) ta) ρ := fun σ H Hm s l hs q Q =>
  h σ H Hm s l hs _ fun xs H1 Hm1 g1 h1 => ⟨ds, .inr C, Hm1, g1.sub, h1, hr, fun H2 Hm2 g2 => q H2 Hm2 (g1.trans g2)⟩
/-- a statement that lets an error out, the slots then -/
def XR (K : PySem.W.Frag) (W : WX) (C : Addr) (ts : TS) (ρ : Rho) (ω : Om) (ρ' : Rho) : Prop := ∀ H0 Hm0 E σ H Hm, Stt K H0 Hm0 H Hm σ ρ ω → (∀ σ' H' Hm', Stt K H0 Hm0 H' Hm' σ' ρ' none → W (.ref C) none σ' H') → ts E σ H
theorem Stt.unown {H0 Hm0 H Hm : Hp} {σ : L2.St} (S : Stt K H0 Hm0 H Hm σ ρ ω) : Stt K H0 Hm0 H Hm σ ρ none := ⟨S.gr, S.len, S.sd, trivial⟩
theorem xr_raise : XR K W C (tRaise W C) ρ ω ρ := fun H0 Hm0 E σ H Hm S q => q σ H Hm S.unown
theorem xr_seq1 (h : XR K W C t ρ ω ρ') : XR K W C (tSeq t u) ρ ω ρ' := fun H0 Hm0 E σ H Hm S q => h H0 Hm0 _ σ H Hm S q
theorem xr_seq (h : XD K t ρ ω (.nx ρ2 ω2)) (k : XR K W C u ρ2 ω2 ρ') : XR K W C (tSeq t u) ρ ω ρ' := fun H0 Hm0 E σ H Hm S q =>
  h H0 Hm0 _ σ H Hm S fun σ' H' Hm' x S' => k H0 Hm0 E σ' H' Hm' S' q
theorem xr_if {b : Bool} (h : ET K tt (vw ρ ω) b) (h1 : b = true → XR K W C t ρ ω ρ') (h2 : b = false → XR K W C u ρ ω ρ') : XR K W C (tIfS tt t u) ρ ω ρ' := fun H0 Hm0 E σ H Hm S q => by
  obtain ⟨Hv, s1, s2, s3, s4, s5, s6⟩ := S.view
  refine h σ H Hv s1 s4 s3 _ fun H2 Hv2 g => ?_
  obtain ⟨Hm2, em, S2, back⟩ := S.hide s2 s6 g
  cases b with
  | true => exact h1 rfl H0 Hm0 E σ H2 Hm2 S2 q
  | false => exact h2 rfl H0 Hm0 E σ H2 Hm2 S2 q
theorem xr_ifT (h : ET K tt (vw ρ ω) true) (h1 : XR K W C t ρ ω ρ') : XR K W C (tIfS tt t u) ρ ω ρ' := xr_if h (fun _ => h1) (fun z => nomatch z)
theorem xr_ifF (h : ET K tt (vw ρ ω) false) (h1 : XR K W C u ρ ω ρ') : XR K W C (tIfS tt t u) ρ ω ρ' := xr_if h (fun z => nomatch z) (fun _ => h1)
theorem xr_drop (h : ER K W C te ρ) : XR K W C (tDrop te) ρ ω ρ := fun H0 Hm0 E σ H Hm S q =>
  h σ H Hm S.gr.sub S.len S.sd (fun H2 Hm2 g => q σ H2 Hm2 (S.grow g).unown) _
theorem xr_asg {g : TG} (h : ER K W C te ρ) : XR K W C (tAsg te g) ρ ω ρ := fun H0 Hm0 E σ H Hm S q =>
  h σ H Hm S.gr.sub S.len S.sd (fun H2 Hm2 g => q σ H2 Hm2 (S.grow g).unown) _
theorem xr_ret (h : ER K W C te ρ) : XR K W C (tRet te) ρ ω ρ := fun H0 Hm0 E σ H Hm S q =>
  h σ H Hm S.gr.sub S.len S.sd (fun H2 Hm2 g => q σ H2 Hm2 (S.grow g).unown) _
theorem xd_drop (h : ED K te (vw ρ ω) d) : XD K (tDrop te) ρ ω (.nx ρ ω) := fun H0 Hm0 E σ H Hm S f => by
  obtain ⟨Hv, s1, s2, s3, s4, s5, s6⟩ := S.view
  refine h σ H Hv s1 s4 s3 _ fun v H2 Hv2 g hv => ?_
  obtain ⟨Hm2, em, S2, back⟩ := S.hide s2 s6 g
  exact f σ H2 Hm2 em S2
/-- while: m turns go through, turn m lets an error out -/
theorem xr_while {tu : TS} (ρs : Nat → Rho) (ωs : Nat → Om) (m : Nat) (h0 : ρs 0 = ρ) (h0' : ωs 0 = ω) (h1 : ∀ i, i < m → ET K tt (vw (ρs i) (ωs i)) true ∧ XD K tu (ρs i) (ωs i) (.nx (ρs (i + 1)) (ωs (i + 1))))
    (h2 : ET K tt (vw (ρs m) (ωs m)) true ∧ XR K W C tu (ρs m) (ωs m) ρ') : XR K W C (tWhile tt tu) ρ ω ρ' := fun H0 Hm0 E σ H Hm S q => by
  refine ⟨fun k σ' H' => ∃ i, i + k = m ∧ ∃ Hm', Ex Hm Hm' ∧ Stt K H0 Hm0 H' Hm' σ' (ρs i) (ωs i), ⟨m, 0, by omega, Hm, Ex.refl _, by rw [h0, h0']; exact S⟩, ?_⟩
  rintro k σ1 H1 ⟨i, hik, Hm1, e1, S1⟩
  obtain ⟨Hv, s1, s2, s3, s4, s5, s6⟩ := S1.view
  by_cases hlt : i < m
  · obtain ⟨c1, c2⟩ := h1 i hlt
    refine c1 σ1 H1 Hv s1 s4 s3 _ fun H2 Hv2 g => ?_
    obtain ⟨Hm2, em, S2, back⟩ := S1.hide s2 s6 g
    simp only [if_true]
    exact ⟨_, fun σ' H' hN => hN, c2 H0 Hm0 { E with nx := fun σ' H' => ∃ m', m' < k ∧ ∃ i', i' + m' = m ∧ ∃ Hm', Ex Hm Hm' ∧ Stt K H0 Hm0 H' Hm' σ' (ρs i') (ωs i'), ct := fun σ' H' => ∃ m', m' < k ∧ ∃ i', i' + m' = m ∧ ∃ Hm', Ex Hm Hm' ∧ Stt K H0 Hm0 H' Hm' σ' (ρs i') (ωs i'), bk := E.nx } σ1 H2 Hm2 S2 fun σ' H' Hm' x S' => ⟨k - 1, by omega, i + 1, by omega, Hm', (e1.trans em).trans x, S'⟩⟩
  · have e : i = m := by omega
    subst e
    obtain ⟨c1, c2⟩ := h2
    refine c1 σ1 H1 Hv s1 s4 s3 _ fun H2 Hv2 g => ?_
    obtain ⟨Hm2, em, S2, back⟩ := S1.hide s2 s6 g
    simp only [if_true]
    exact ⟨fun _ _ => False, fun _ _ z => z.elim, c2 H0 Hm0 { E with nx := fun _ _ => False, ct := fun _ _ => False, bk := E.nx } σ1 H2 Hm2 S2 q⟩
/-! ### try -/
theorem xd_tryV {c : Value} {tb : WX → TS} {ts : Addr → Value → Option Addr → TS} {Wout : WX} (h : ∀ W : WX, XD K (tb W) ρ ω o) : XD K (fun D σ H => tb (wOnly K c ts Wout D) D σ H) ρ ω o := fun H0 Hm0 E σ H Hm S f => h _ H0 Hm0 E σ H Hm S f
theorem xd_tryX {c : Value} {tb : WX → TS} {ts : Addr → Value → Option Addr → TS} {Wout : WX} (h : ∀ W : WX, XR K W C (tb W) ρ ω ρ') (hm : PySem.W.exmOne K (.ref C) c = some true) (k : ∀ a, XD K (ts a (.ref C) none) ρ' none (.rt d)) : XD K (fun D σ H => tb (wOnly K c ts Wout D) D σ H) ρ ω (.rt d) := fun H0 Hm0 E σ H Hm S f =>
  h _ H0 Hm0 E σ H Hm S fun σ' H' Hm' S' => ⟨true, hm, fun _ a _ => k a H0 Hm0 E σ' H' Hm' S' f, fun z => nomatch z⟩
theorem xd_tryAsV {c : Value} {tb : WX → TS} {ts : Addr → Value → Option Addr → TS} {Wout : WX} (h : ∀ W : WX, XD K (tb W) ρ ω o) : XD K (fun D σ H => tb (wAs K c i ts Wout D) D σ H) ρ ω o := fun H0 Hm0 E σ H Hm S f => h _ H0 Hm0 E σ H Hm S f
/-- the suite hands back d; slot i holds the error -/
theorem xd_tryAsX {c : Value} {tb : WX → TS} {ts : Addr → Value → Option Addr → TS} {Wout : WX} (h : ∀ W : WX, XR K W C (tb W) ρ ω ρ') (hm : PySem.W.exmOne K (.ref C) c = some true) (hi : i < ρ'.length)
    (k : ∀ (a : Addr) H0 Hm0 (D : Ends) σ H Hm, Stt K H0 Hm0 H Hm σ (ρ'.set i none) none → σ[i]? = some (some (.ref a)) → (∀ v H Hm, Gr H0 Hm0 H Hm → Dp K Hm v d → D.rt v H) → ts a (.ref C) none D σ H) : XD K (fun D σ H => tb (wAs K c i ts Wout D) D σ H) ρ ω (.rt d) := fun H0 Hm0 E σ H Hm S f =>
  h _ H0 Hm0 E σ H Hm S fun σ' H' Hm' S' => ⟨true, hm, fun _ a _ => k a H0 Hm0 _ _ H' Hm' ⟨S'.gr, by rw [List.length_set, List.length_set]; exact S'.len, S'.sd.drop i _, trivial⟩ (List.getElem?_set_self (Nat.lt_of_lt_of_le hi S'.len)) f, fun z => nomatch z⟩
end
/-- isinstance(e, c) of the error that is held, its class told by the reading -/
def rIsX (K : PySem.W.Frag) (cls : Value) (d : Option Addr) (a : Addr) : List V → Hp → VK → Prop := fun xs H Q => ∃ D, cls = .ref D ∧ d = none ∧ ExcC K D ∧ rIsE K D a xs H Q
theorem call_isX (K : PySem.W.Frag) {X : Cx} (hK : X.K = K) {a : Addr} {oe : Obj} {cls : Value} {d : Option Addr} {pn : List (Addr × Obj)} (hz : Zc cls d oe) (hf : ∃ vs, oe.data = .fields vs) : CallR (X.suite a ((a, oe) :: pn)) (.builtin "isinstance") (rIsX K cls d a) := by
  subst hK
  intro pins s σ H xs us Q I r h
  obtain ⟨D, rfl, rfl, C, h⟩ := h
  exact call_isE C hz hf pins s σ H xs us Q I r h
/-- a def that may let an error out -/
theorem hasX_of {P : Program} {w : World} {K : PySem.W.Frag} {mg : Str → Option Value} {base : Heap} {x : Str} {st : Stmt} {f : Addr} {fd : FuncData} {N ps : List Str} {k : Nat} {R : List D → Res → Prop} (F : Fun K x x st f fd) (b : Binds K fd ps []) (hm : mg x = some (.ref f)) (S : FnScope N ps (defScope st)) (hN : ps.length ≤ N.length)
    (len : ∀ ds o, R ds o → ds.length = ps.length)
    (hbody : ∀ (cdv : Value) (A : Around) (outer : List Env) (s : Shared) (H : Hp) (E : XK), Room k (A.deeper (envOfC x (defScope st) s.heap.objs.size f cdv)) →
      ∃ t, PSs (cxOf (L2.CX P w) P w K mg base N x (defScope st) f cdv A outer s H E) (defBody st) t ∧ ∀ ds o, R ds o → match o with
        | .inl r => XD K t (startR N ds) none (.rt r)
        | .inr C => ∃ ρ', XR K (fun cls d _ H => E cls d H) C t (startR N ds) none ρ') : HasX P w K mg base (k + 1) x (SpX K R) := by
  refine ⟨f, fd, ps, F.okX S (fun vs H Q E h => ?_) (fun cdv A outer s H vs Q E hr h => ?_), hm, F.kp, b⟩
  · obtain ⟨ds, r, Hm, _, hd, hR, _⟩ := h
    rw [hd.len, len ds r hR]
  · obtain ⟨t, h1, h2⟩ := hbody cdv A outer s H E hr
    obtain ⟨ds, r, Hm, s1, hd, hR, q⟩ := h
    have hl := len ds r hR
    have S0 : Stt K H Hm H Hm (L2.start N vs) (startR N ds) none := by
      refine ⟨Gr.refl s1, ?_, start_sd hd, trivial⟩
      rw [startR_len (by omega)]
      have := hd.len
      unfold L2.start
      rw [List.length_append, List.length_map, List.length_replicate]
      omega
    refine ⟨t, h1, ?_⟩
    have h3 := h2 ds r hR
    cases r with
    | inl r => exact h3 H Hm _ (L2.start N vs) H Hm S0 fun v H' Hm' g hv => q v H' Hm' g hv
    | inr C =>
      obtain ⟨ρ', h3⟩ := h3
      exact h3 H Hm _ (L2.start N vs) H Hm S0 fun σ' H' Hm' S' => q H' Hm' S'.gr
end LM

set_option Elab.async false
set_option linter.all false
set_option maxRecDepth 100000
set_option maxHeartbeats 1000000
/-! LmY: texts, None, while by turns. -/
namespace LM
open PySem PySem.Spec PyProof.Rows L2 Evl
/-! ### text * int -/
def rep : Nat → Str → Str
  | 0, _ => Str.empty
  | k + 1, z => z ++ rep k z
theorem rep_fold (z : Str) : ∀ (k : Nat) (a : Array Nat), (List.replicate k z.cps).foldl (· ++ ·) a = a ++ (rep k z).cps
  | 0, a => by simp [rep, Str.empty]
  | k + 1, a => by
    rw [List.replicate_succ, List.foldl_cons, rep_fold z k]
    show a ++ z.cps ++ (rep k z).cps = a ++ (z.cps ++ (rep k z).cps)
    rw [Array.append_assoc]
theorem rep_len (z : Str) : ∀ k : Nat, (rep k z).length = k * z.length
  | 0 => by simp [rep, Str.empty, Str.length]
  | k + 1 => by rw [rep, Str.length_append, rep_len z k, Nat.succ_mul]; omega
theorem rep_one (z : Str) : rep 1 z = z := by
  show z ++ Str.empty = z
  exact Str.append_empty z
theorem rep_nil {z : Str} (h : z.length = 0) (k : Nat) : rep k z = z := by
  have e : z = Str.empty := by
    refine Str.ext' ?_
    show z.cps = #[]
    exact Array.eq_empty_of_size_eq_zero h
  subst e
  induction k with
  | zero => rfl
  | succ k ih => rw [rep, ih, Str.empty_append]
def rMulS : R2 := fun x y H Q => ∃ (z : Str) (n : Int), x = .str z ∧ y = .int n ∧ 0 ≤ n ∧ n ≤ 1000 ∧ z.length ≤ 1000 ∧ Q (.str (rep n.toNat z)) H
section
variable {X : Cx}
theorem op_mulS : OpR X (binaryOp .Mult) rMulS := by
  intro pins s σ H x y v u Q I rx ry ⟨z, n, ex, ey, h0, h1, hz, q⟩
  subst ex ey
  obtain ⟨t, rfl⟩ := rx
  obtain ⟨t', rfl⟩ := ry
  have big : z.length * n.toNat ≤ 1000000 := Nat.mul_le_mul hz (by omega : n.toNat ≤ 1000)
  refine PySem.P.mul_str ?_ (fun c _ => ?_) (fun c _ => ?_) ?_
  · rw [decide_eq_false (by omega), decide_eq_false (by omega)]; rfl
  · have h2 : (1000 : Int) ≤ (2 ^ 63 - 1) / n := by
      rw [Int.le_ediv_iff_mul_le (by omega)]
      have : (1000 : Int) * n ≤ 1000 * 1000 := Int.mul_le_mul_of_nonneg_left h1 (by decide)
      omega
    omega
  · unfold Builtin.Str.tooLong
    exact decide_eq_false (by rw [sizeLine_eq]; omega)
  · by_cases c : n < 1
    · rw [if_pos c]
      have e : n.toNat = 0 := by omega
      rw [e] at q
      exact ⟨by decide, ⟨.str Str.empty, H, I.tok _, ⟨_, rfl⟩, q⟩⟩
    · rw [if_neg c]
      by_cases d : (n == 1 || z.length == 0) = true
      · rw [if_pos d]
        have e : rep n.toNat z = z := by
          rw [Bool.or_eq_true, beq_iff_eq, beq_iff_eq] at d
          rcases d with d | d
          · rw [d]; exact rep_one z
          · exact rep_nil d _
        rw [e] at q
        exact ⟨.str z, H, I, ⟨_, rfl⟩, q⟩
      · rw [if_neg d]
        have e : (⟨(List.replicate n.toNat z.cps).foldl (· ++ ·) #[]⟩ : Str) = rep n.toNat z := Str.ext' (by
          show (List.replicate n.toNat z.cps).foldl (· ++ ·) #[] = _
          rw [rep_fold]; simp)
        rw [e]
        refine ⟨?_, ⟨.str (rep n.toNat z), H, I.tok _, ⟨_, rfl⟩, q⟩⟩
        rw [rep_len, Nat.mul_comm, sizeLine_eq]
        omega
end
abbrev rMulV (K : PySem.W.Frag) : R2 := orR (rMulU K) rMulS
theorem op_mulVK (K : PySem.W.Frag) {X : Cx} (h : X.K = K) : OpR X (binaryOp .Mult) (rMulV K) := (op_mulK K h).or op_mulS
section
variable {K : PySem.W.Frag} {ρ ρ' : Rho} {ω ω' : Om} {o : Out} {te to : TE} {tt : TT} {tu : TS} {d : D} {a b c : D}
theorem rd_mulV (h : RD K (rMulU K) a b c) : RD K (rMulV K) a b c := rd_l h
theorem rd_mulS {z : Str} {n : Int} (h0 : 0 ≤ n) (h1 : n ≤ 1000) (hz : z.length ≤ 1000) : RD K (rMulV K) (.str z) (.int n) (.str (rep n.toNat z)) := fun H Hm x y s hx hy Q q =>
  .inr ⟨z, n, dp_str hx, dp_int hy, h0, h1, hz, q _ H Hm (Gr.refl s) (.str _)⟩
/-! ### text[i], text.split(sep), len(text), x is None -/
theorem rd_ixS {z : Str} {i : Int} {ch : Nat} (hz : z.length ≤ 1000000) (h : atI z.cps.toList i = some ch) : RD K (rIx K) (.str z) (.int i) (.str ⟨#[ch]⟩) := fun H Hm x y s hx hy Q q =>
  .inr (.inr ⟨z, i, ch, dp_str hx, dp_int hy, Nat.le_trans hz (by decide), h, q _ H Hm (Gr.refl s) (.str _)⟩)
abbrev rSplit : V → List V → Hp → VK → Prop := fun x xs H Q => ∃ a b, x = .str a ∧ xs = [.str b] ∧ (b.length == 0) = false ∧ a.length + 2 ≤ sizeLine ∧ rNewStrs (Txt.split a b) H Q
theorem el_split {x y : Str} (ho : ED K to ρ (.str x)) (he : ED K te ρ (.str y)) (hy : (y.length == 0) = false) (hz : x.length ≤ 1000000) : EL K (tM1 rSplit to te) ρ ((Txt.split x y).map PyData.str) := fun σ H Hm s l hs Q q =>
  ho σ H Hm s l hs _ fun v H1 Hm1 g1 h1 => ⟨⟨x, dp_str h1⟩, he σ H1 Hm1 g1.sub l (hs.mono g1.em) _ fun u H2 Hm2 g2 h2 =>
    ⟨x, y, dp_str h1, by rw [dp_str h2], hy, Nat.le_trans (Nat.add_le_add_right hz 2) (by decide), fun p hp => q p _ _ Hm2 ((g1.trans g2).trans (Gr.priv g2.sub hp)) (fresh_back (g1.ex.trans g2.ex) hp) (fresh_back g2.sub hp) upd_same (by
      clear hp q
      generalize Txt.split x y = l
      induction l with
      | nil => exact .nil
      | cons w l ih => exact .cons (.str w) ih)⟩⟩
def isNone : D → Bool
  | .none => true
  | _ => false
theorem dp_isN {H : Hp} {v : V} {d : D} (h : Dp K H v d) : decide (v = .non) = isNone d := by
  cases h <;> simp [isNone]
theorem rd_isN {d : D} : RD K (fun x y H Q => y = .non ∧ Q (.bl (decide (x = .non))) H) d .none (.bool (isNone d)) := fun H Hm x y s hx hy Q q => ⟨dp_none hy, by
  rw [dp_isN hx]; exact q _ H Hm (Gr.refl s) (.bl _)⟩
theorem rd_notN {d : D} : RD K (fun x y H Q => y = .non ∧ Q (.bl (!decide (x = .non))) H) d .none (.bool (!isNone d)) := fun H Hm x y s hx hy Q q => ⟨dp_none hy, by
  rw [dp_isN hx]; exact q _ H Hm (Gr.refl s) (.bl _)⟩
/-! ### while, turn by turn -/
inductive Wh (K : PySem.W.Frag) (tt : TT) (tu : TS) : Nat → Rho → Om → Out → Prop
  | stop {ρ : Rho} {ω : Om} : ET K tt (vw ρ ω) false → Wh K tt tu 0 ρ ω (.nx ρ ω)
  | brk {ρ : Rho} {ω : Om} {ρ' : Rho} {ω' : Om} : ET K tt (vw ρ ω) true → XD K tu ρ ω (.bk ρ' ω') → Wh K tt tu 0 ρ ω (.nx ρ' ω')
  | ret {ρ : Rho} {ω : Om} {d : D} : ET K tt (vw ρ ω) true → XD K tu ρ ω (.rt d) → Wh K tt tu 0 ρ ω (.rt d)
  | step {m : Nat} {ρ : Rho} {ω : Om} {ρ' : Rho} {ω' : Om} {o : Out} : ET K tt (vw ρ ω) true → XD K tu ρ ω (.nx ρ' ω') → Wh K tt tu m ρ' ω' o → Wh K tt tu (m + 1) ρ ω o
def lead {α : Type} (a : α) (f : Nat → α) : Nat → α
  | 0 => a
  | i + 1 => f i
theorem Wh.seq {m : Nat} (h : Wh K tt tu m ρ ω o) : ∃ (ρs : Nat → Rho) (ωs : Nat → Om), ρs 0 = ρ ∧ ωs 0 = ω ∧ (∀ i, i < m → ET K tt (vw (ρs i) (ωs i)) true ∧ XD K tu (ρs i) (ωs i) (.nx (ρs (i + 1)) (ωs (i + 1)))) ∧
    ((ET K tt (vw (ρs m) (ωs m)) false ∧ o = .nx (ρs m) (ωs m)) ∨ (ET K tt (vw (ρs m) (ωs m)) true ∧ ((∃ r, o = .rt r ∧ XD K tu (ρs m) (ωs m) (.rt r)) ∨ ∃ ρ' ω', o = .nx ρ' ω' ∧ XD K tu (ρs m) (ωs m) (.bk ρ' ω')))) := by
  induction h with
  | @stop ρ ω h => exact ⟨fun _ => ρ, fun _ => ω, rfl, rfl, fun i hi => by omega, .inl ⟨h, rfl⟩⟩
  | @brk ρ ω ρ' ω' h h2 => exact ⟨fun _ => ρ, fun _ => ω, rfl, rfl, fun i hi => by omega, .inr ⟨h, .inr ⟨ρ', ω', rfl, h2⟩⟩⟩
  | @ret ρ ω d h h2 => exact ⟨fun _ => ρ, fun _ => ω, rfl, rfl, fun i hi => by omega, .inr ⟨h, .inl ⟨d, rfl, h2⟩⟩⟩
  | @step m ρ ω ρ' ω' o h h2 _ ih =>
    obtain ⟨ρs, ωs, e1, e2, c1, c2⟩ := ih
    refine ⟨lead ρ ρs, lead ω ωs, rfl, rfl, fun i hi => ?_, c2⟩
    cases i with
    | zero => exact ⟨h, by show XD K tu ρ ω (.nx (ρs 0) (ωs 0)); rw [e1, e2]; exact h2⟩
    | succ i => exact c1 i (by omega)
theorem xd_wh {m : Nat} (h : Wh K tt tu m ρ ω o) : XD K (tWhile tt tu) ρ ω o := by
  obtain ⟨ρs, ωs, e1, e2, c1, c2⟩ := h.seq
  exact xd_while ρs ωs m e1 e2 c1 c2
inductive WhR (K : PySem.W.Frag) (W : WX) (C : Addr) (tt : TT) (tu : TS) : Nat → Rho → Om → Rho → Prop
  | here {ρ : Rho} {ω : Om} {ρ' : Rho} : ET K tt (vw ρ ω) true → XR K W C tu ρ ω ρ' → WhR K W C tt tu 0 ρ ω ρ'
  | step {m : Nat} {ρ : Rho} {ω : Om} {ρ1 : Rho} {ω1 : Om} {ρ' : Rho} : ET K tt (vw ρ ω) true → XD K tu ρ ω (.nx ρ1 ω1) → WhR K W C tt tu m ρ1 ω1 ρ' → WhR K W C tt tu (m + 1) ρ ω ρ'
theorem xr_wh {W : WX} {C : Addr} {m : Nat} (h : WhR K W C tt tu m ρ ω ρ') : XR K W C (tWhile tt tu) ρ ω ρ' := by
  have key : ∃ (ρs : Nat → Rho) (ωs : Nat → Om), ρs 0 = ρ ∧ ωs 0 = ω ∧ (∀ i, i < m → ET K tt (vw (ρs i) (ωs i)) true ∧ XD K tu (ρs i) (ωs i) (.nx (ρs (i + 1)) (ωs (i + 1)))) ∧ (ET K tt (vw (ρs m) (ωs m)) true ∧ XR K W C tu (ρs m) (ωs m) ρ') := by
    induction h with
    | @here ρ ω ρ' h h2 => exact ⟨fun _ => ρ, fun _ => ω, rfl, rfl, fun i hi => by omega, h, h2⟩
    | @step m ρ ω ρ1 ω1 ρ' h h2 _ ih =>
      obtain ⟨ρs, ωs, e1, e2, c1, c2⟩ := ih
      refine ⟨lead ρ ρs, lead ω ωs, rfl, rfl, fun i hi => ?_, c2⟩
      cases i with
      | zero => exact ⟨h, by show XD K tu ρ ω (.nx (ρs 0) (ωs 0)); rw [e1, e2]; exact h2⟩
      | succ i => exact c1 i (by omega)
  obtain ⟨ρs, ωs, e1, e2, c1, c2⟩ := key
  exact xr_while ρs ωs m e1 e2 c1 c2
end
end LM

set_option Elab.async false
set_option linter.all false
set_option maxRecDepth 100000
set_option maxHeartbeats 1000000
/-! Lm9: things that change (cells: own lists, instances, things kept by an invariant), told by their numbers. -/
namespace LM
open PySem PySem.Spec PyProof.Rows L2 Evl

/-- what a slot may hold: data, or the cell with a number -/
inductive SV where
  | d (x : D)
  | o (n : Nat)
abbrev Rx := List (Option SV)
/-- what a cell holds -/
inductive MO where
  | lst (ds : List D)
  | ins (C : Addr) (fs : List (Str × SV))
  | inv (φ : Addr → HO → Hp → Prop) (mono : ∀ a o H H', Ex H H' → φ a o H → φ a o H')
abbrev Mu := List MO
section
variable (K : PySem.W.Frag)
def Dx (Hm : Hp) (α : List Addr) (v : V) : SV → Prop
  | .d x => Dp K Hm v x
  | .o n => ∃ a : Addr, α[n]? = some a ∧ v = V.ref a
inductive FAll (Hm : Hp) (α : List Addr) : List (Str × V) → List (Str × SV) → Prop
  | nil : FAll Hm α [] []
  | cons {f v x vs xs} : Dx K Hm α v x → FAll Hm α vs xs → FAll Hm α ((f, v) :: vs) ((f, x) :: xs)
inductive DxAll (Hm : Hp) (α : List Addr) : List V → List SV → Prop
  | nil : DxAll Hm α [] []
  | cons {v x vs xs} : Dx K Hm α v x → DxAll Hm α vs xs → DxAll Hm α (v :: vs) (x :: xs)
def MOk (H Hm : Hp) (α : List Addr) (a : Addr) : MO → Prop
  | .lst ds => ∃ vs, H a = some (.lst vs) ∧ DpAll K Hm vs ds
  | .ins C fs => ∃ dx vs, H a = some (.ins C dx vs) ∧ FAll K Hm α vs fs
  | .inv φ _ => ∃ o, H a = some o ∧ φ a o Hm
structure Sto (H Hm : Hp) (α : List Addr) (μ : Mu) : Prop where
  len : α.length = μ.length
  nd : α.Nodup
  hm : ∀ a ∈ α, Hm a = none
  ok : ∀ (n : Nat) (a : Addr) (m : MO), α[n]? = some a → μ[n]? = some m → MOk K H Hm α a m
def Sx (Hm : Hp) (α : List Addr) (σ : L2.St) (ρ : Rx) : Prop := ∀ (i : Nat) (x : SV), ρ[i]? = some (some x) → ∃ v, σ[i]? = some (some v) ∧ Dx K Hm α v x
end
/-- all but the cells stay -/
structure GrS (α : List Addr) (H Hm H2 Hm2 : Hp) : Prop where
  ex : ∀ a o, a ∉ α → H a = some o → H2 a = some o
  th : ∀ a o, H a = some o → ∃ o2, H2 a = some o2
  em : Ex Hm Hm2
  sub : Ex Hm2 H2
  own : ∀ a o, H a = some o → Hm a = none → Hm2 a = none
section
variable {K : PySem.W.Frag} {H Hm H1 Hm1 H2 Hm2 : Hp} {α β γ : List Addr} {μ μ1 μ2 : Mu} {σ : L2.St} {ρ : Rx}
theorem Gr.toS (g : Gr H Hm H2 Hm2) : GrS α H Hm H2 Hm2 := ⟨fun a o _ h => g.ex a o h, fun a o h => ⟨o, g.ex a o h⟩, g.em, g.sub, g.own⟩
theorem GrS.refl (s : Ex Hm H) : GrS α H Hm H Hm := (Gr.refl s).toS
theorem GrS.trans (g : GrS α H Hm H1 Hm1) (k : GrS β H1 Hm1 H2 Hm2) (nw : ∀ a ∈ β, a ∉ α → H a = none) : GrS α H Hm H2 Hm2 := by
  refine ⟨fun a o n h => ?_, fun a o h => ?_, g.em.trans k.em, k.sub, fun a o h n => ?_⟩
  · refine k.ex a o (fun hb => ?_) (g.ex a o n h)
    rw [nw a hb n] at h
    cases h
  · obtain ⟨o1, h1⟩ := g.th a o h
    exact k.th a o1 h1
  · obtain ⟨o1, h1⟩ := g.th a o h
    exact k.own a o1 h1 (g.own a o h n)
theorem GrS.non (g : GrS α H Hm H2 Hm2) {a : Addr} (h : H2 a = none) : H a = none := by
  cases e : H a with
  | none => rfl
  | some o =>
    obtain ⟨o2, h2⟩ := g.th a o e
    rw [h] at h2; cases h2
theorem pre_get (h : α <+: β) {n : Nat} {a : Addr} (e : α[n]? = some a) : β[n]? = some a := by
  obtain ⟨t, rfl⟩ := h
  obtain ⟨hn, _⟩ := List.getElem?_eq_some_iff.mp e
  rw [List.getElem?_append_left hn]; exact e
theorem Dx.mono {v : V} : ∀ {x : SV}, Dx K Hm α v x → Ex Hm Hm2 → α <+: β → Dx K Hm2 β v x
  | .d _, h, e, _ => Dp.mono h e
  | .o _, ⟨a, h1, h2⟩, _, p => ⟨a, pre_get p h1, h2⟩
theorem FAll.mono : ∀ {vs : List (Str × V)} {xs : List (Str × SV)}, FAll K Hm α vs xs → Ex Hm Hm2 → α <+: β → FAll K Hm2 β vs xs
  | _, _, .nil, _, _ => .nil
  | _, _, .cons h t, e, p => .cons (h.mono e p) (FAll.mono t e p)
theorem FAll.look {f : Str} {x : SV} : ∀ {vs : List (Str × V)} {xs : List (Str × SV)}, FAll K Hm α vs xs → xs.lookup f = some x → ∃ v, vs.lookup f = some v ∧ Dx K Hm α v x
  | _, _, .nil, e => by cases e
  | _, _, .cons (f := g) h t, e => by
    rw [List.lookup_cons] at e ⊢
    cases c : f == g with
    | true => rw [c] at e; cases e; exact ⟨_, rfl, h⟩
    | false => rw [c] at e; exact FAll.look t e
theorem FAll.lookN {f : Str} : ∀ {vs : List (Str × V)} {xs : List (Str × SV)}, FAll K Hm α vs xs → xs.lookup f = none → vs.lookup f = none
  | _, _, .nil, _ => rfl
  | _, _, .cons (f := g) h t, e => by
    rw [List.lookup_cons] at e ⊢
    cases c : f == g with
    | true => rw [c] at e; cases e
    | false => rw [c] at e; exact FAll.lookN t e
theorem FAll.len : ∀ {vs : List (Str × V)} {xs : List (Str × SV)}, FAll K Hm α vs xs → vs.length = xs.length
  | _, _, .nil => rfl
  | _, _, .cons _ t => congrArg (· + 1) (FAll.len t)
theorem DxAll.mono : ∀ {vs : List V} {xs : List SV}, DxAll K Hm α vs xs → Ex Hm Hm2 → α <+: β → DxAll K Hm2 β vs xs
  | _, _, .nil, _, _ => .nil
  | _, _, .cons h t, e, p => .cons (h.mono e p) (DxAll.mono t e p)
theorem DxAll.len : ∀ {vs : List V} {xs : List SV}, DxAll K Hm α vs xs → vs.length = xs.length
  | _, _, .nil => rfl
  | _, _, .cons _ t => congrArg (· + 1) (DxAll.len t)
theorem DxAll.data : ∀ {vs : List V} {ds : List D}, DxAll K Hm α vs (ds.map .d) → DpAll K Hm vs ds
  | _, [], .nil => .nil
  | _, _ :: _, .cons h t => .cons h (DxAll.data t)
theorem DxAll.of : ∀ {vs : List V} {ds : List D}, DpAll K Hm vs ds → DxAll K Hm α vs (ds.map .d)
  | _, _, .nil => .nil
  | _, _, .cons h t => .cons h (DxAll.of t)
theorem MOk.move {a : Addr} {m : MO} (h : MOk K H Hm α a m) (e : ∀ o, H a = some o → H2 a = some o) (em : Ex Hm Hm2) (p : α <+: β) : MOk K H2 Hm2 β a m := by
  cases m with
  | lst ds =>
    obtain ⟨vs, h1, h2⟩ := h
    exact ⟨vs, e _ h1, h2.mono em⟩
  | ins C fs =>
    obtain ⟨dx, vs, h1, h2⟩ := h
    exact ⟨dx, vs, e _ h1, h2.mono em p⟩
  | inv φ mono =>
    obtain ⟨o, h1, h2⟩ := h
    exact ⟨o, e _ h1, mono _ _ _ _ em h2⟩
theorem MOk.has {a : Addr} {m : MO} (h : MOk K H Hm α a m) : ∃ o, H a = some o := by
  cases m with
  | lst ds => obtain ⟨vs, h1, _⟩ := h; exact ⟨_, h1⟩
  | ins C fs => obtain ⟨dx, vs, h1, _⟩ := h; exact ⟨_, h1⟩
  | inv φ mono => obtain ⟨o, h1, _⟩ := h; exact ⟨_, h1⟩
theorem Sto.get (S : Sto K H Hm α μ) {n : Nat} {m : MO} (e : μ[n]? = some m) : ∃ a, α[n]? = some a ∧ MOk K H Hm α a m := by
  obtain ⟨hn, _⟩ := List.getElem?_eq_some_iff.mp e
  have hn' : n < α.length := by rw [S.len]; exact hn
  have ha : α[n]? = some α[n] := List.getElem?_eq_getElem hn'
  exact ⟨_, ha, S.ok n _ m ha e⟩
theorem Sto.at (S : Sto K H Hm α μ) {n : Nat} {a : Addr} (e : α[n]? = some a) : ∃ m, μ[n]? = some m ∧ MOk K H Hm α a m := by
  obtain ⟨hn, _⟩ := List.getElem?_eq_some_iff.mp e
  have hn' : n < μ.length := by rw [← S.len]; exact hn
  have hm : μ[n]? = some μ[n] := List.getElem?_eq_getElem hn'
  exact ⟨_, hm, S.ok n a _ e hm⟩
theorem Sto.has (S : Sto K H Hm α μ) {a : Addr} (h : a ∈ α) : ∃ o, H a = some o := by
  obtain ⟨n, hn⟩ := List.mem_iff_getElem?.mp h
  obtain ⟨m, _, k⟩ := S.at hn
  exact k.has
theorem Sto.fresh (S : Sto K H Hm α μ) {p : Addr} (h : H p = none) : p ∉ α := fun hp => by
  obtain ⟨o, ho⟩ := S.has hp
  rw [h] at ho; cases ho
theorem Sto.inj (S : Sto K H Hm α μ) {n k : Nat} {a : Addr} (e1 : α[n]? = some a) (e2 : α[k]? = some a) : n = k := by
  obtain ⟨hn, _⟩ := List.getElem?_eq_some_iff.mp e1
  exact (List.getElem?_inj hn S.nd).mp (e1.trans e2.symm)
theorem Sto.empty : Sto K H Hm [] [] := ⟨rfl, List.nodup_nil, fun a h => (by cases h), fun n a m h => (by simp at h)⟩
/-- growth changes no cell -/
theorem Sto.grow (S : Sto K H Hm α μ) (g : Gr H Hm H2 Hm2) : Sto K H2 Hm2 α μ := by
  refine ⟨S.len, S.nd, fun a ha => ?_, fun n a m h1 h2 => (S.ok n a m h1 h2).move (fun o e => g.ex a o e) g.em (List.prefix_refl _)⟩
  obtain ⟨o, ho⟩ := S.has ha
  exact g.own a o ho (S.hm a ha)
theorem Sto.take (S : Sto K H Hm α μ) (n : Nat) (cl : ∀ k m, k < n → μ[k]? = some m → ∀ C fs, m = .ins C fs → ∀ f x, (f, x) ∈ fs → ∀ j, x = .o j → j < n) : Sto K H Hm (α.take n) (μ.take n) := by
  refine ⟨by rw [List.length_take, List.length_take, S.len], S.nd.sublist (List.take_sublist _ _), fun a ha => S.hm a (List.mem_of_mem_take ha), fun k a m h1 h2 => ?_⟩
  have hk : k < n := by
    have := (List.getElem?_eq_some_iff.mp h1).1
    rw [List.length_take] at this; omega
  rw [List.getElem?_take_of_lt hk] at h1 h2
  have h := S.ok k a m h1 h2
  cases m with
  | lst ds => exact h
  | inv φ mono => exact h
  | ins C fs =>
    obtain ⟨dx, vs, e1, e2⟩ := h
    refine ⟨dx, vs, e1, ?_⟩
    have key : ∀ (vs : List (Str × V)) (xs : List (Str × SV)), FAll K Hm α vs xs → (∀ f x, (f, x) ∈ xs → ∀ j, x = .o j → j < n) → FAll K Hm (α.take n) vs xs := by
      intro vs xs h
      induction h with
      | nil => intro _; exact .nil
      | @cons f v x vs xs h t ih =>
        intro c
        refine .cons ?_ (ih fun g y hy => c g y (List.mem_cons_of_mem _ hy))
        cases x with
        | d x => exact h
        | o j =>
          obtain ⟨a, h1, h2⟩ := h
          exact ⟨a, by rw [List.getElem?_take_of_lt (c f _ List.mem_cons_self j rfl)]; exact h1, h2⟩
    exact key vs fs e2 (cl k _ hk h2 C fs rfl)
/-- one cell is changed -/
theorem Sto.put (S : Sto K H Hm α μ) {n : Nat} {a : Addr} {o : HO} {m : MO} (ha : α[n]? = .some a) (s : Ex Hm H) (hm : MOk K (upd H a o) Hm α a m) : Sto K (upd H a o) Hm α (μ.set n m) := by
  refine ⟨by rw [List.length_set]; exact S.len, S.nd, S.hm, fun k b m' h1 h2 => ?_⟩
  rcases set_get h2 with ⟨rfl, rfl, _⟩ | ⟨hne, h3⟩
  · rw [ha] at h1
    cases h1
    exact hm
  · have hb : b ≠ a := fun e => hne (S.inj h1 (e ▸ ha))
    exact (S.ok k b m' h1 h3).move (fun o' e => by rw [upd_ne hb]; exact e) (Ex.refl _) (List.prefix_refl _)
theorem upd_sub {a : Addr} {o : HO} (s : Ex Hm H) (h : Hm a = none) : Ex Hm (upd H a o) := fun b u e => by
  have hne : b ≠ a := fun z => by rw [z, h] at e; cases e
  rw [upd_ne hne]; exact s b u e
theorem GrS.put {n : Nat} {a : Addr} {o : HO} (s : Ex Hm H) (ha : a ∈ α) (hm : Hm a = none) : GrS α H Hm (upd H a o) Hm := by
  refine ⟨fun b u nb h => ?_, fun b u h => ?_, Ex.refl _, upd_sub s hm, fun b u h n => n⟩
  · have hne : b ≠ a := fun z => nb (z ▸ ha)
    rw [upd_ne hne]; exact h
  · by_cases z : b = a
    · exact ⟨o, by rw [z, upd_same]⟩
    · exact ⟨u, by rw [upd_ne z]; exact h⟩
/-- a new cell -/
theorem Sto.new (S : Sto K H Hm α μ) {p : Addr} {o : HO} {m : MO} (s : Ex Hm H) (hp : H p = none) (hm : MOk K (upd H p o) Hm (α ++ [p]) p m) : Sto K (upd H p o) Hm (α ++ [p]) (μ ++ [m]) := by
  refine ⟨by rw [List.length_append, List.length_append, S.len]; rfl, ?_, fun a ha => ?_, fun k b m' h1 h2 => ?_⟩
  · rw [List.nodup_append]
    exact ⟨S.nd, by simp, fun x hx y hy e => by
      rw [List.mem_singleton] at hy
      subst hy
      subst e
      exact S.fresh hp hx⟩
  · rcases List.mem_append.mp ha with h | h
    · exact S.hm a h
    · rw [List.mem_singleton.mp h]; exact fresh_back s hp
  · by_cases hk : k < α.length
    · rw [List.getElem?_append_left hk] at h1
      rw [List.getElem?_append_left (by rw [← S.len]; exact hk)] at h2
      have hb : b ≠ p := fun e => S.fresh hp (e ▸ List.mem_of_getElem? h1)
      exact (S.ok k b m' h1 h2).move (fun o' e => by rw [upd_ne hb]; exact e) (Ex.refl _) (List.prefix_append _ _)
    · have e : k = α.length := by
        have := (List.getElem?_eq_some_iff.mp h1).1
        rw [List.length_append, List.length_singleton] at this
        omega
      rw [List.getElem?_append_right (by omega), e, Nat.sub_self] at h1
      rw [List.getElem?_append_right (by rw [← S.len]; omega), e, S.len, Nat.sub_self] at h2
      cases h1
      cases h2
      exact hm
/-- behind a piece of the run -/
structure Aft (K : PySem.W.Frag) (α : List Addr) (H Hm : Hp) (μ2 : Mu) (α2 : List Addr) (H2 Hm2 : Hp) : Prop where
  pre : α <+: α2
  nw : ∀ a ∈ α2, a ∉ α → H a = none
  gr : GrS α H Hm H2 Hm2
  sto : Sto K H2 Hm2 α2 μ2
theorem Aft.refl (s : Ex Hm H) (S : Sto K H Hm α μ) : Aft K α H Hm μ α H Hm := ⟨List.prefix_refl _, fun a h n => absurd h n, GrS.refl s, S⟩
theorem Aft.ofGr (S : Sto K H Hm α μ) (g : Gr H Hm H2 Hm2) : Aft K α H Hm μ α H2 Hm2 := ⟨List.prefix_refl _, fun a h n => absurd h n, g.toS, S.grow g⟩
theorem Aft.trans (a : Aft K α H Hm μ1 β H1 Hm1) (b : Aft K β H1 Hm1 μ2 γ H2 Hm2) : Aft K α H Hm μ2 γ H2 Hm2 := by
  refine ⟨a.pre.trans b.pre, fun x hx n => ?_, a.gr.trans b.gr a.nw, b.sto⟩
  by_cases h : x ∈ β
  · exact a.nw x h n
  · exact a.gr.non (b.nw x hx h)
theorem Aft.put (s : Ex Hm H) (S : Sto K H Hm α μ) {n : Nat} {a : Addr} {o : HO} {m : MO} (ha : α[n]? = .some a) (hm : MOk K (upd H a o) Hm α a m) : Aft K α H Hm (μ.set n m) α (upd H a o) Hm :=
  ⟨List.prefix_refl _, fun a h n => absurd h n, GrS.put (n := n) s (List.mem_of_getElem? ha) (S.hm _ (List.mem_of_getElem? ha)), S.put ha s hm⟩
theorem Aft.new (s : Ex Hm H) (S : Sto K H Hm α μ) {p : Addr} {o : HO} {m : MO} (hp : H p = none) (hm : MOk K (upd H p o) Hm (α ++ [p]) p m) : Aft K α H Hm (μ ++ [m]) (α ++ [p]) (upd H p o) Hm := by
  refine ⟨List.prefix_append _ _, fun a ha n => ?_, (Gr.priv s hp).toS, S.new s hp hm⟩
  rcases List.mem_append.mp ha with h | h
  · exact absurd h n
  · rw [List.mem_singleton.mp h]; exact hp
theorem Sx.mono (h : Sx K Hm α σ ρ) (e : Ex Hm Hm2) (p : α <+: β) : Sx K Hm2 β σ ρ := fun i x hi =>
  let ⟨v, h1, h2⟩ := h i x hi
  ⟨v, h1, h2.mono e p⟩
theorem Sx.aft (h : Sx K Hm α σ ρ) (a : Aft K α H Hm μ β H2 Hm2) : Sx K Hm2 β σ ρ := h.mono a.gr.em a.pre
theorem Sx.set {v : V} {x : SV} (h : Sx K Hm α σ ρ) (hl : ρ.length ≤ σ.length) (i : Nat) (hv : Dx K Hm α v x) : Sx K Hm α (σ.set i (some v)) (ρ.set i (some x)) := fun j y hj => by
  rcases set_get hj with ⟨rfl, e1, hi⟩ | ⟨hne, h1⟩
  · cases e1
    exact ⟨v, List.getElem?_set_self (by omega), hv⟩
  · obtain ⟨w, h2, h3⟩ := h j y h1
    exact ⟨w, by rw [List.getElem?_set_ne (Ne.symm hne)]; exact h2, h3⟩
theorem Sx.less {ρ' : Rx} (h : Sx K Hm α σ ρ) (hw : ∀ (i : Nat) (x : SV), ρ'[i]? = some (some x) → ρ[i]? = some (some x)) : Sx K Hm α σ ρ' := fun i x hi => h i x (hw i x hi)
def wipeX (ρ : Rx) : List Nat → Rx
  | [] => ρ
  | v :: vs => (wipeX ρ vs).set v none
theorem wipeX_length (ρ : Rx) : ∀ vs : List Nat, (wipeX ρ vs).length = ρ.length
  | [] => rfl
  | v :: vs => by unfold wipeX; rw [List.length_set, wipeX_length ρ vs]
theorem Sx.wipe (h : Sx K Hm α σ ρ) : ∀ vs : List Nat, Sx K Hm α (wipe σ vs) (wipeX ρ vs)
  | [] => h
  | v :: vs => fun j y hj => by
    rcases set_get hj with ⟨rfl, e1, hi⟩ | ⟨hne, h1⟩
    · cases e1
    · obtain ⟨w, h2, h3⟩ := Sx.wipe h vs j y h1
      exact ⟨w, by show ((L2.wipe σ vs).set v none)[j]? = _; rw [List.getElem?_set_ne (Ne.symm hne)]; exact h2, h3⟩
end

/-! ### the slots' data alone; with own lists shown -/
def purS : Option SV → Option D
  | some (.d x) => some x
  | _ => none
def pur (ρ : Rx) : Rho := ρ.map purS
def vwS (μ : Mu) : Option SV → Option D
  | some (.d x) => some x
  | some (.o n) => match μ[n]? with
    | some (.lst ds) => some (.list ds)
    | _ => none
  | none => none
def vwx (ρ : Rx) (μ : Mu) : Rho := ρ.map (vwS μ)
/-- the addresses of own lists -/
def isL (α : List Addr) (μ : Mu) (a : Addr) : Prop := ∃ (n : Nat) (ds : List D), α[n]? = some a ∧ μ[n]? = some (MO.lst ds)
open Classical in
noncomputable def shown (H Hm : Hp) (α : List Addr) (μ : Mu) : Hp := fun a => if isL α μ a then H a else Hm a
open Classical in
noncomputable def eraP (H : Hp) (p : Addr → Prop) : Hp := fun a => if p a then none else H a
section
variable {K : PySem.W.Frag} {H Hm H2 Hv2 : Hp} {α : List Addr} {μ : Mu} {σ : L2.St} {ρ : Rx}
theorem Sx.pur (h : Sx K Hm α σ ρ) : Sd K Hm σ (pur ρ) := fun i d hi => by
  unfold LM.pur at hi
  rw [List.getElem?_map] at hi
  obtain ⟨x, h1, h2⟩ := Option.map_eq_some_iff.mp hi
  cases x with
  | none => cases h2
  | some x =>
    cases x with
    | o n => cases h2
    | d x =>
      cases h2
      exact h i _ h1
theorem pur_len : (pur ρ).length = ρ.length := by unfold pur; rw [List.length_map]
theorem vwx_len : (vwx ρ μ).length = ρ.length := by unfold vwx; rw [List.length_map]
theorem shown_yes {a : Addr} (h : isL α μ a) : shown H Hm α μ a = H a := by unfold shown; exact if_pos h
theorem shown_no {a : Addr} (h : ¬ isL α μ a) : shown H Hm α μ a = Hm a := by unfold shown; exact if_neg h
theorem eraP_yes {p : Addr → Prop} {a : Addr} (h : p a) : eraP H p a = none := by unfold eraP; exact if_pos h
theorem eraP_no {p : Addr → Prop} {a : Addr} (h : ¬ p a) : eraP H p a = H a := by unfold eraP; exact if_neg h
theorem eraP_ex {p : Addr → Prop} : Ex (eraP H p) H := fun b o h => by
  by_cases e : p b
  · rw [eraP_yes e] at h; cases h
  · rw [eraP_no e] at h; exact h
theorem isL_get (S : Sto K H Hm α μ) {a : Addr} (h : isL α μ a) : ∃ vs, H a = some (.lst vs) := by
  obtain ⟨n, ds, h1, h2⟩ := h
  obtain ⟨vs, h3, _⟩ := S.ok n a _ h1 h2
  exact ⟨vs, h3⟩
theorem shown_up (S : Sto K H Hm α μ) : Ex Hm (shown H Hm α μ) := fun a o h => by
  have n : ¬ isL α μ a := fun ⟨k, ds, h1, _⟩ => by
    rw [S.hm a (List.mem_of_getElem? h1)] at h; cases h
  rw [shown_no n]; exact h
theorem shown_sub (s : Ex Hm H) : Ex (shown H Hm α μ) H := fun a o h => by
  by_cases e : isL α μ a
  · rw [shown_yes e] at h; exact h
  · rw [shown_no e] at h; exact s a o h
theorem Sx.vw (h : Sx K Hm α σ ρ) (S : Sto K H Hm α μ) : Sd K (shown H Hm α μ) σ (vwx ρ μ) := fun i d hi => by
  unfold vwx at hi
  rw [List.getElem?_map] at hi
  obtain ⟨x, h1, h2⟩ := Option.map_eq_some_iff.mp hi
  cases x with
  | none => cases h2
  | some x =>
    obtain ⟨v, hv, hd⟩ := h i x h1
    cases x with
    | d x =>
      cases h2
      exact ⟨v, hv, Dp.mono hd (shown_up S)⟩
    | o n =>
      obtain ⟨a, ha, rfl⟩ := hd
      simp only [vwS] at h2
      cases hm : μ[n]? with
      | none => rw [hm] at h2; cases h2
      | some m =>
        rw [hm] at h2
        cases m with
        | ins C fs => cases h2
        | inv φ mono => cases h2
        | lst ds =>
          cases h2
          obtain ⟨vs, e1, e2⟩ := S.ok n a _ ha hm
          exact ⟨_, hv, .lst (.inl (.inl (by rw [shown_yes ⟨n, ds, ha, hm⟩]; exact e1))) (e2.mono (shown_up S))⟩
theorem sqT_eraP {p : Addr → Prop} (hp : ∀ a, p a → ∃ vs, H a = some (.lst vs)) {a : Addr} {xs : List V} (h : SqT K H a xs) : SqT K (eraP H p) a xs := by
  have ne : ∀ {o : HO}, H a = some o → (∀ vs, o ≠ .lst vs) → ¬ p a := fun h n z => by
    obtain ⟨vs, e⟩ := hp _ z
    rw [h] at e
    exact n vs (Option.some.inj e)
  rcases h with (h | ⟨o, h⟩) | h
  · exact .inl (.inl (by rw [eraP_no (ne h (fun _ e => by cases e))]; exact h))
  · exact .inl (.inr ⟨o, by rw [eraP_no (ne h (fun _ e => by cases e))]; exact h⟩)
  · exact .inr h
mutual
theorem dp_eraP {p : Addr → Prop} (hp : ∀ a, p a → ∃ vs, H a = some (.lst vs)) : ∀ (d : D) (v : V), imm d = true → Dp K H v d → Dp K (eraP H p) v d
  | .none, _, _, h => by cases h; exact .non
  | .bool b, _, _, h => by cases h; exact .bl b
  | .int i, _, _, h => by cases h; exact .int i
  | .str x, _, _, h => by cases h; exact .str x
  | .list ds, _, q, _ => by simp [imm] at q
  | .tuple ds, _, q, h => by
    cases h with
    | tup hs hd => exact .tup (sqT_eraP hp hs) (dps_eraP hp ds _ (by simpa [imm] using q) hd)
  | .dict _, _, _, h => by cases h
theorem dps_eraP {p : Addr → Prop} (hp : ∀ a, p a → ∃ vs, H a = some (.lst vs)) : ∀ (ds : List D) (vs : List V), imms ds = true → DpAll K H vs ds → DpAll K (eraP H p) vs ds
  | [], _, _, h => by cases h; exact .nil
  | d :: ds, _, q, h => by
    cases h with
    | cons h1 h2 =>
      simp only [imms, Bool.and_eq_true] at q
      exact .cons (dp_eraP hp d _ q.1 h1) (dps_eraP hp ds _ q.2 h2)
end
/-- behind what was read with own lists shown: they are hidden again -/
theorem hideX (S : Sto K H Hm α μ) (s : Ex Hm H) (g : Gr H (shown H Hm α μ) H2 Hv2) : Aft K α H Hm μ α H2 (eraP Hv2 (isL α μ)) ∧ ∀ a, isL α μ a → ∃ vs, Hv2 a = some (.lst vs) := by
  have hl : ∀ a, isL α μ a → ∃ vs, Hv2 a = some (.lst vs) := fun a h => by
    obtain ⟨vs, e⟩ := isL_get S h
    exact ⟨vs, g.em a _ (by rw [shown_yes h]; exact e)⟩
  have em : Ex Hm (eraP Hv2 (isL α μ)) := fun a o h => by
    have n : ¬ isL α μ a := fun ⟨k, ds, h1, _⟩ => by
      rw [S.hm a (List.mem_of_getElem? h1)] at h; cases h
    rw [eraP_no n]
    exact g.em a o (by rw [shown_no n]; exact h)
  have own : ∀ a o, H a = some o → Hm a = none → eraP Hv2 (isL α μ) a = none := fun a o h n => by
    by_cases e : isL α μ a
    · exact eraP_yes e
    · rw [eraP_no e]
      exact g.own a o h (by rw [shown_no e]; exact n)
  refine ⟨⟨List.prefix_refl _, fun a h n => absurd h n, ⟨fun a o _ h => g.ex a o h, fun a o h => ⟨o, g.ex a o h⟩, em, eraP_ex.trans g.sub, own⟩, ⟨S.len, S.nd, fun a ha => ?_, fun n a m h1 h2 => (S.ok n a m h1 h2).move (fun o e => g.ex a o e) em (List.prefix_refl _)⟩⟩, hl⟩
  obtain ⟨o, ho⟩ := S.has ha
  exact own a o ho (S.hm a ha)
end

/-! ### what an expression gives -/
section
variable (K : PySem.W.Frag)
def EX (te : TE) (ρ : Rx) (μ : Mu) (x : SV) (μ2 : Mu) : Prop := ∀ σ H Hm α, Ex Hm H → ρ.length ≤ σ.length → Sx K Hm α σ ρ → Sto K H Hm α μ → ∀ Q : VK, (∀ v H2 Hm2 α2, Aft K α H Hm μ2 α2 H2 Hm2 → Dx K Hm2 α2 v x → Q v H2) → te σ H Q
def EXs (ta : TA) (ρ : Rx) (μ : Mu) (xs : List SV) (μ2 : Mu) : Prop := ∀ σ H Hm α, Ex Hm H → ρ.length ≤ σ.length → Sx K Hm α σ ρ → Sto K H Hm α μ → ∀ Q : List V → Hp → Prop, (∀ vs H2 Hm2 α2, Aft K α H Hm μ2 α2 H2 Hm2 → DxAll K Hm2 α2 vs xs → Q vs H2) → ta σ H Q
def TX (tt : TT) (ρ : Rx) (μ : Mu) (b : Bool) (μ2 : Mu) : Prop := ∀ σ H Hm α, Ex Hm H → ρ.length ≤ σ.length → Sx K Hm α σ ρ → Sto K H Hm α μ → ∀ Q : Bool → Hp → Prop, (∀ H2 Hm2 α2, Aft K α H Hm μ2 α2 H2 Hm2 → Q b H2) → tt σ H Q
end
section
variable {K : PySem.W.Frag} {ρ : Rx} {μ μ1 μ2 μ3 : Mu} {ta tb te tc : TE} {t u : TT} {x y z : SV} {xs ys : List SV} {a b c d : D} {ds es : List D} {r : R2} {i n : Nat}
theorem ex_is (h : EX K te ρ μ x μ2) (e : x = y) : EX K te ρ μ y μ2 := e ▸ h
theorem ex_mu (h : EX K te ρ μ x μ2) (e : μ2 = μ3) : EX K te ρ μ x μ3 := e ▸ h
theorem tx_is {p q : Bool} (h : TX K t ρ μ p μ2) (e : p = q) : TX K t ρ μ q μ2 := e ▸ h
theorem ex_var (h : ρ[i]? = some (some x)) : EX K (tVar i) ρ μ x μ := fun σ H Hm α s _ hs S Q q =>
  let ⟨v, h1, h2⟩ := hs i x h
  ⟨v, h1, q v H Hm α (Aft.refl s S) h2⟩
theorem ex_pure (h : ED K te (pur ρ) d) : EX K te ρ μ (.d d) μ := fun σ H Hm α s l hs S Q q =>
  h σ H Hm s (by rw [pur_len]; exact l) hs.pur Q fun v H2 Hm2 g hv => q v H2 Hm2 α (Aft.ofGr S g) hv
theorem tx_pure {p : Bool} (h : ET K t (pur ρ) p) : TX K t ρ μ p μ := fun σ H Hm α s l hs S Q q =>
  h σ H Hm s (by rw [pur_len]; exact l) hs.pur Q fun H2 Hm2 g => q H2 Hm2 α (Aft.ofGr S g)
theorem exs_pure {t : TA} (h : EDs K t (pur ρ) ds) : EXs K t ρ μ (ds.map .d) μ := fun σ H Hm α s l hs S Q q =>
  h σ H Hm s (by rw [pur_len]; exact l) hs.pur Q fun v H2 Hm2 g hv => q v H2 Hm2 α (Aft.ofGr S g) (DxAll.of hv)
/-- read with own lists shown -/
theorem ex_view (h : ED K te (vwx ρ μ) d) (hd : imm d = true := by first | rfl | assumption) : EX K te ρ μ (.d d) μ := fun σ H Hm α s l hs S Q q =>
  h σ H (shown H Hm α μ) (shown_sub s) (by rw [vwx_len]; exact l) (hs.vw S) Q fun v H2 Hv2 g hv => by
    obtain ⟨A, hl⟩ := hideX S s g
    exact q v H2 _ α A (dp_eraP hl d v hd hv)
theorem tx_view {p : Bool} (h : ET K t (vwx ρ μ) p) : TX K t ρ μ p μ := fun σ H Hm α s l hs S Q q =>
  h σ H (shown H Hm α μ) (shown_sub s) (by rw [vwx_len]; exact l) (hs.vw S) Q fun H2 Hv2 g => by
    obtain ⟨A, hl⟩ := hideX S s g
    exact q H2 _ α A
/-- a new list, as data -/
theorem ex_viewL (h : EL K te (vwx ρ μ) ds) (hd : imms ds = true) : EX K te ρ μ (.d (.list ds)) μ := fun σ H Hm α s l hs S Q q =>
  h σ H (shown H Hm α μ) (shown_sub s) (by rw [vwx_len]; exact l) (hs.vw S) Q fun p vs H2 Hv2 g hp hm h2 hv => by
    obtain ⟨A, hl⟩ := hideX S s g
    have hv' := dps_eraP hl ds vs hd hv
    have hm' : eraP Hv2 (isL α μ) p = none := by
      by_cases e : isL α μ p
      · exact eraP_yes e
      · rw [eraP_no e]; exact hm
    have em : Ex (eraP Hv2 (isL α μ)) (upd (eraP Hv2 (isL α μ)) p (.lst vs)) := Ex.new hm'
    refine q (.ref p) H2 (upd (eraP Hv2 (isL α μ)) p (.lst vs)) α ⟨A.pre, A.nw, ⟨A.gr.ex, A.gr.th, A.gr.em.trans em, fun b o h => ?_, fun b o h n => ?_⟩, ⟨A.sto.len, A.sto.nd, fun b hb => ?_, fun k b m h1 h2 => (A.sto.ok k b m h1 h2).move (fun _ e => e) em (List.prefix_refl _)⟩⟩ (.lst (.inl (.inl upd_same)) (hv'.mono em))
    · by_cases e : b = p
      · subst e; rw [upd_same] at h; cases h; exact h2
      · rw [upd_ne e] at h; exact A.gr.sub b o h
    · rw [upd_ne (ne_of_none h hp)]; exact A.gr.own b o h n
    · have : b ≠ p := fun e => S.fresh hp (e ▸ hb)
      rw [upd_ne this]; exact A.sto.hm b hb
/-- a new list, as a cell -/
theorem ex_cell (h : EL K te (vwx ρ μ) ds) (hd : imms ds = true := by first | rfl | assumption) : EX K te ρ μ (.o μ.length) (μ ++ [.lst ds]) := fun σ H Hm α s l hs S Q q =>
  h σ H (shown H Hm α μ) (shown_sub s) (by rw [vwx_len]; exact l) (hs.vw S) Q fun p vs H2 Hv2 g hp hm h2 hv => by
    obtain ⟨A, hl⟩ := hideX S s g
    have hv' := dps_eraP hl ds vs hd hv
    have hm' : eraP Hv2 (isL α μ) p = none := by
      by_cases e : isL α μ p
      · exact eraP_yes e
      · rw [eraP_no e]; exact hm
    have fp : p ∉ α := S.fresh hp
    refine q (.ref p) H2 (eraP Hv2 (isL α μ)) (α ++ [p]) ⟨List.prefix_append _ _, fun b hb n => ?_, A.gr, ⟨by rw [List.length_append, List.length_append, S.len]; rfl, ?_, fun b hb => ?_, fun k b m h1 h2' => ?_⟩⟩ ⟨p, ?_, rfl⟩
    · rcases List.mem_append.mp hb with h | h
      · exact absurd h n
      · rw [List.mem_singleton.mp h]; exact hp
    · rw [List.nodup_append]
      exact ⟨S.nd, by simp, fun x hx y hy e => by
        rw [List.mem_singleton] at hy
        subst hy
        subst e
        exact fp hx⟩
    · rcases List.mem_append.mp hb with h | h
      · exact A.sto.hm b h
      · rw [List.mem_singleton.mp h]; exact hm'
    · by_cases hk : k < α.length
      · rw [List.getElem?_append_left hk] at h1
        rw [List.getElem?_append_left (by rw [← S.len]; exact hk)] at h2'
        exact (A.sto.ok k b m h1 h2').move (fun _ e => e) (Ex.refl _) (List.prefix_append _ _)
      · have e : k = α.length := by
          have := (List.getElem?_eq_some_iff.mp h1).1
          rw [List.length_append, List.length_singleton] at this
          omega
        rw [List.getElem?_append_right (by omega), e, Nat.sub_self] at h1
        rw [List.getElem?_append_right (by rw [← S.len]; omega), e, S.len, Nat.sub_self] at h2'
        cases h1
        cases h2'
        exact ⟨vs, h2, hv'⟩
    · rw [← S.len, List.getElem?_append_right (Nat.le_refl _), Nat.sub_self]; rfl
theorem ex_op (ha : EX K ta ρ μ (.d a) μ1) (hb : EX K tb ρ μ1 (.d b) μ2) (hr : RD K r a b c) : EX K (tOp r ta tb) ρ μ (.d c) μ2 := fun σ H Hm α s l hs S Q q =>
  ha σ H Hm α s l hs S _ fun x H1 Hm1 α1 A1 h1 => hb σ H1 Hm1 α1 A1.gr.sub l (hs.aft A1) A1.sto _ fun y H2 Hm2 α2 A2 h2 =>
    hr H2 Hm2 x y A2.gr.sub (Dp.mono h1 A2.gr.em) h2 Q fun v H3 Hm3 g3 h3 => q v H3 Hm3 α2 ((A1.trans A2).trans (Aft.ofGr A2.sto g3)) h3
theorem exs_nil : EXs K tNil ρ μ [] μ := fun σ H Hm α s _ _ S Q q => q [] H Hm α (Aft.refl s S) .nil
theorem exs_cons {tr : TA} (h : EX K ta ρ μ x μ1) (hr : EXs K tr ρ μ1 xs μ2) : EXs K (tCons ta tr) ρ μ (x :: xs) μ2 := fun σ H Hm α s l hs S Q q =>
  h σ H Hm α s l hs S _ fun v H1 Hm1 α1 A1 h1 => hr σ H1 Hm1 α1 A1.gr.sub l (hs.aft A1) A1.sto _ fun vs H2 Hm2 α2 A2 h2 => q _ H2 Hm2 α2 (A1.trans A2) (.cons (h1.mono A2.gr.em A2.pre) h2)
theorem ex_tup {t : TA} (h : EXs K t ρ μ (ds.map .d) μ2) (hl : ds.length ≤ 1000 := by decide) : EX K (tTup t) ρ μ (.d (.tuple ds)) μ2 := fun σ H Hm α s l hs S Q q =>
  h σ H Hm α s l hs S _ fun vs H1 Hm1 α1 A1 h1 => ⟨Nat.le_of_lt (small1000 (by rw [h1.data.len]; exact hl)), fun p hp =>
    q _ _ _ α1 (A1.trans (Aft.ofGr A1.sto (Gr.new A1.gr.sub hp))) (.tup (.inl (.inl upd_same)) (h1.data.mono (Ex.new (fresh_back A1.gr.sub hp))))⟩
theorem ex_cb {r : List V → Hp → VK → Prop} {t : TA} (h : EXs K t ρ μ (ds.map .d) μ2) (hr : CD K r ds c) : EX K (tCB r t) ρ μ (.d c) μ2 := fun σ H Hm α s l hs S Q q =>
  h σ H Hm α s l hs S _ fun vs H1 Hm1 α1 A1 h1 => hr H1 Hm1 vs A1.gr.sub h1.data Q fun v H2 Hm2 g2 h2 => q v H2 Hm2 α1 (A1.trans (Aft.ofGr A1.sto g2)) h2
theorem tx_test {p : Bool} (h : EX K te ρ μ (.d (.bool p)) μ2) : TX K (tTest te) ρ μ p μ2 := fun σ H Hm α s l hs S Q q =>
  h σ H Hm α s l hs S _ fun v H2 Hm2 α2 A h2 => ⟨p, dp_bool h2, q H2 Hm2 α2 A⟩
theorem tx_B {p : Bool} (h : EX K te ρ μ (.d (.bool p)) μ2) : TX K (tB te) ρ μ p μ2 := fun σ H Hm α s l hs S Q q =>
  h σ H Hm α s l hs S _ fun v H2 Hm2 α2 A h2 => ⟨p, dp_bool h2, q H2 Hm2 α2 A⟩
theorem tx_not {p : Bool} (h : TX K t ρ μ p μ2) : TX K (tNot t) ρ μ (!p) μ2 := fun σ H Hm α s l hs S Q q => h σ H Hm α s l hs S _ fun H2 Hm2 α2 A => q H2 Hm2 α2 A
theorem tx_and {p q : Bool} (h1 : TX K t ρ μ p μ1) (h2 : p = true → TX K u ρ μ1 q μ2) (h3 : p = false → μ2 = μ1) : TX K (tAnd t u) ρ μ (p && q) μ2 := fun σ H Hm α s l hs S Q k => h1 σ H Hm α s l hs S _ fun H2 Hm2 α2 A => by
  cases p with
  | true => exact h2 rfl σ H2 Hm2 α2 A.gr.sub l (hs.aft A) A.sto Q fun H3 Hm3 α3 A3 => k H3 Hm3 α3 (A.trans A3)
  | false => rw [h3 rfl] at k; exact k H2 Hm2 α2 A
theorem tx_or {p q : Bool} (h1 : TX K t ρ μ p μ1) (h2 : p = false → TX K u ρ μ1 q μ2) (h3 : p = true → μ2 = μ1) : TX K (tOr t u) ρ μ (p || q) μ2 := fun σ H Hm α s l hs S Q k => h1 σ H Hm α s l hs S _ fun H2 Hm2 α2 A => by
  cases p with
  | false => exact h2 rfl σ H2 Hm2 α2 A.gr.sub l (hs.aft A) A.sto Q fun H3 Hm3 α3 A3 => k H3 Hm3 α3 (A.trans A3)
  | true => rw [h3 rfl] at k; exact k H2 Hm2 α2 A
theorem ex_notV {p : Bool} (h : EX K ta ρ μ (.d (.bool p)) μ2) : EX K (tNotV ta) ρ μ (.d (.bool (!p))) μ2 := fun σ H Hm α s l hs S Q q =>
  h σ H Hm α s l hs S _ fun v H2 Hm2 α2 A hv => ⟨p, dp_bool hv, q _ H2 Hm2 α2 A (.bl _)⟩
theorem ex_andV {p q : Bool} (h1 : EX K ta ρ μ (.d (.bool p)) μ1) (h2 : p = true → EX K tb ρ μ1 (.d (.bool q)) μ2) (h3 : p = false → μ2 = μ1) : EX K (tAndV ta tb) ρ μ (.d (.bool (p && q))) μ2 := fun σ H Hm α s l hs S Q k =>
  h1 σ H Hm α s l hs S _ fun v H2 Hm2 α2 A hv => ⟨p, dp_bool hv, by
    cases p with
    | true => exact h2 rfl σ H2 Hm2 α2 A.gr.sub l (hs.aft A) A.sto Q fun w H3 Hm3 α3 A3 hw => k w H3 Hm3 α3 (A.trans A3) hw
    | false => rw [h3 rfl] at k; exact k _ H2 Hm2 α2 A (.bl false)⟩
theorem ex_orV {p q : Bool} (h1 : EX K ta ρ μ (.d (.bool p)) μ1) (h2 : p = false → EX K tb ρ μ1 (.d (.bool q)) μ2) (h3 : p = true → μ2 = μ1) : EX K (tOrV ta tb) ρ μ (.d (.bool (p || q))) μ2 := fun σ H Hm α s l hs S Q k =>
  h1 σ H Hm α s l hs S _ fun v H2 Hm2 α2 A hv => ⟨p, dp_bool hv, by
    cases p with
    | false => exact h2 rfl σ H2 Hm2 α2 A.gr.sub l (hs.aft A) A.sto Q fun w H3 Hm3 α3 A3 hw => k w H3 Hm3 α3 (A.trans A3) hw
    | true => rw [h3 rfl] at k; exact k _ H2 Hm2 α2 A (.bl true)⟩
/-- o.f -/
theorem ex_fld {C : Addr} {fs : List (Str × SV)} {f : Str} (h : EX K ta ρ μ (.o n) μ2) (hm : μ2[n]? = some (.ins C fs)) (c : Cls K C) (na : NoAttr K C f) (hf : fs.lookup f = some x) : EX K (tFld K ta f) ρ μ x μ2 := fun σ H Hm α s l hs S Q q =>
  h σ H Hm α s l hs S _ fun v H2 Hm2 α2 A ⟨a, ha, e⟩ => by
    obtain ⟨dx, vs, h1, h2⟩ := A.sto.ok n a _ ha hm
    obtain ⟨w, h3, h4⟩ := h2.look hf
    exact ⟨a, C, dx, vs, w, e, h1, c, na, h3, q w H2 Hm2 α2 A h4⟩
end
end LM

set_option Elab.async false
set_option linter.all false
set_option maxRecDepth 100000
set_option maxHeartbeats 1000000
/-! Lm10: statements, comprehensions, loops, calls over cells. -/
namespace LM
open PySem PySem.Spec PyProof.Rows L2 Evl

structure SM (K : PySem.W.Frag) (L0 : List Addr) (H0 Hm0 H Hm : Hp) (σ : L2.St) (ρ : Rx) (α : List Addr) (μ : Mu) : Prop where
  gr : GrS L0 H0 Hm0 H Hm
  len : ρ.length ≤ σ.length
  sd : Sx K Hm α σ ρ
  sto : Sto K H Hm α μ
  fr : ∀ a ∈ α, a ∈ L0 ∨ H0 a = none
inductive OutX where
  | nx (ρ : Rx) (μ : Mu)
  | rt (x : SV) (μ : Mu)
  | bk (ρ : Rx) (μ : Mu)
def FnX (K : PySem.W.Frag) (L0 : List Addr) (H0 Hm0 Hb : Hp) (αb : List Addr) (E : Ends) : OutX → Prop
  | .nx ρ μ => ∀ σ H Hm α, Ex Hb Hm → αb <+: α → SM K L0 H0 Hm0 H Hm σ ρ α μ → E.nx σ H
  | .rt x μ => ∀ v H Hm α, αb <+: α → GrS L0 H0 Hm0 H Hm → Sto K H Hm α μ → (∀ a ∈ α, a ∈ L0 ∨ H0 a = none) → Dx K Hm α v x → E.rt v H
  | .bk ρ μ => ∀ σ H Hm α, Ex Hb Hm → αb <+: α → SM K L0 H0 Hm0 H Hm σ ρ α μ → E.bk σ H
def XM (K : PySem.W.Frag) (ts : TS) (ρ : Rx) (μ : Mu) (o : OutX) : Prop := ∀ L0 H0 Hm0 E σ H Hm α, SM K L0 H0 Hm0 H Hm σ ρ α μ → FnX K L0 H0 Hm0 Hm α E o → ts E σ H
/-- what may be referred to, of n cells -/
def okV (n : Nat) : SV → Prop
  | .d _ => True
  | .o j => j < n
def clS (n : Nat) : SV → Bool
  | .d _ => true
  | .o j => decide (j < n)
def clM (n : Nat) : MO → Bool
  | .ins _ fs => fs.all fun p => clS n p.2
  | .lst _ => true
  | .inv _ _ => true
def cl (n : Nat) (μ : Mu) : Bool := (μ.take n).all (clM n)
section
variable {K : PySem.W.Frag} {L0 : List Addr} {H0 Hm0 H Hm H2 Hm2 Hb Hb2 : Hp} {σ : L2.St} {ρ ρ1 ρ2 : Rx} {α α2 β β2 : List Addr} {μ μ1 μ2 μ3 : Mu} {E : Ends} {o : OutX} {t u w : TS} {te ta : TE} {tt : TT} {x y : SV} {d : D} {ds es : List D} {i j n : Nat}
theorem SM.aft (S : SM K L0 H0 Hm0 H Hm σ ρ α μ) (A : Aft K α H Hm μ2 α2 H2 Hm2) : SM K L0 H0 Hm0 H2 Hm2 σ ρ α2 μ2 := by
  refine ⟨S.gr.trans A.gr fun a ha n => (S.fr a ha).resolve_left n, S.len, S.sd.aft A, A.sto, fun a ha => ?_⟩
  by_cases h : a ∈ α
  · exact S.fr a h
  · exact .inr (S.gr.non (A.nw a ha h))
theorem FnX.mono (h : FnX K L0 H0 Hm0 Hb β E o) (e : Ex Hb Hb2) (p : β <+: β2) : FnX K L0 H0 Hm0 Hb2 β2 E o := by
  cases o with
  | nx ρ μ => exact fun σ H Hm α x q S => h σ H Hm α (e.trans x) (p.trans q) S
  | rt x μ => exact fun v H Hm α q g S f hv => h v H Hm α (p.trans q) g S f hv
  | bk ρ μ => exact fun σ H Hm α x q S => h σ H Hm α (e.trans x) (p.trans q) S
theorem SM.set {v : V} (S : SM K L0 H0 Hm0 H Hm σ ρ α μ) (hv : Dx K Hm α v x) : SM K L0 H0 Hm0 H Hm (σ.set i (some v)) (ρ.set i (some x)) α μ :=
  ⟨S.gr, by rw [List.length_set, List.length_set]; exact S.len, S.sd.set S.len i hv, S.sto, S.fr⟩
theorem xm_out {o' : OutX} (h : XM K t ρ μ o) (e : o = o') : XM K t ρ μ o' := e ▸ h
theorem xm_seq (h : XM K t ρ μ (.nx ρ1 μ1)) (k : XM K u ρ1 μ1 o) : XM K (tSeq t u) ρ μ o := fun L0 H0 Hm0 E σ H Hm α S f =>
  h L0 H0 Hm0 _ σ H Hm α S fun σ' H' Hm' α' x p S' => k L0 H0 Hm0 E σ' H' Hm' α' S' (f.mono x p)
theorem xm_seq_rt (h : XM K t ρ μ (.rt x μ1)) : XM K (tSeq t u) ρ μ (.rt x μ1) := fun L0 H0 Hm0 E σ H Hm α S f => h L0 H0 Hm0 _ σ H Hm α S f
theorem xm_seq_bk (h : XM K t ρ μ (.bk ρ1 μ1)) : XM K (tSeq t u) ρ μ (.bk ρ1 μ1) := fun L0 H0 Hm0 E σ H Hm α S f => h L0 H0 Hm0 _ σ H Hm α S f
theorem xm_assoc (h : XM K (tSeq t (tSeq u w)) ρ μ o) : XM K (tSeq (tSeq t u) w) ρ μ o := h
theorem xm_nexts (h : XM K w ρ μ o) : XM K (tSeq tNext w) ρ μ o := h
theorem xm_next : XM K tNext ρ μ (.nx ρ μ) := fun L0 H0 Hm0 E σ H Hm α S f => f σ H Hm α (Ex.refl _) (List.prefix_refl _) S
theorem xm_break : XM K tBreak ρ μ (.bk ρ μ) := fun L0 H0 Hm0 E σ H Hm α S f => f σ H Hm α (Ex.refl _) (List.prefix_refl _) S
theorem xm_asg (h : EX K te ρ μ x μ2) : XM K (tAsg te (gName i)) ρ μ (.nx (ρ.set i (some x)) μ2) := fun L0 H0 Hm0 E σ H Hm α S f =>
  h σ H Hm α S.gr.sub S.len S.sd S.sto _ fun v H2 Hm2 α2 A hv => f _ H2 Hm2 α2 A.gr.em A.pre ((S.aft A).set hv)
theorem xm_drop (h : EX K te ρ μ x μ2) : XM K (tDrop te) ρ μ (.nx ρ μ2) := fun L0 H0 Hm0 E σ H Hm α S f =>
  h σ H Hm α S.gr.sub S.len S.sd S.sto _ fun v H2 Hm2 α2 A hv => f _ H2 Hm2 α2 A.gr.em A.pre (S.aft A)
theorem xm_ret (h : EX K te ρ μ x μ2) : XM K (tRet te) ρ μ (.rt x μ2) := fun L0 H0 Hm0 E σ H Hm α S f =>
  h σ H Hm α S.gr.sub S.len S.sd S.sto _ fun v H2 Hm2 α2 A hv => f v H2 Hm2 α2 A.pre (S.aft A).gr A.sto (S.aft A).fr hv
theorem xm_rets (h : EX K te ρ μ x μ2) : XM K (tSeq (tRet te) w) ρ μ (.rt x μ2) := xm_seq_rt (xm_ret h)
theorem xm_if {b : Bool} (h : TX K tt ρ μ b μ1) (h1 : b = true → XM K t ρ μ1 o) (h2 : b = false → XM K u ρ μ1 o) : XM K (tIfS tt t u) ρ μ o := fun L0 H0 Hm0 E σ H Hm α S f =>
  h σ H Hm α S.gr.sub S.len S.sd S.sto _ fun H2 Hm2 α2 A => by
    cases b with
    | true => exact h1 rfl L0 H0 Hm0 E σ H2 Hm2 α2 (S.aft A) (f.mono A.gr.em A.pre)
    | false => exact h2 rfl L0 H0 Hm0 E σ H2 Hm2 α2 (S.aft A) (f.mono A.gr.em A.pre)
theorem xm_ifT (h : TX K tt ρ μ true μ1) (h1 : XM K t ρ μ1 o) : XM K (tIfS tt t u) ρ μ o := xm_if h (fun _ => h1) (fun z => nomatch z)
theorem xm_ifF (h : TX K tt ρ μ false μ1) (h1 : XM K u ρ μ1 o) : XM K (tIfS tt t u) ρ μ o := xm_if h (fun z => nomatch z) (fun _ => h1)
theorem xm_ifs {b : Bool} (h : TX K tt ρ μ b μ1) (h1 : b = true → XM K (tSeq t w) ρ μ1 o) (h2 : b = false → XM K (tSeq u w) ρ μ1 o) : XM K (tSeq (tIfS tt t u) w) ρ μ o := fun L0 H0 Hm0 E σ H Hm α S f =>
  h σ H Hm α S.gr.sub S.len S.sd S.sto _ fun H2 Hm2 α2 A => by
    cases b with
    | true => exact h1 rfl L0 H0 Hm0 E σ H2 Hm2 α2 (S.aft A) (f.mono A.gr.em A.pre)
    | false => exact h2 rfl L0 H0 Hm0 E σ H2 Hm2 α2 (S.aft A) (f.mono A.gr.em A.pre)
theorem cl_ok {n : Nat} {μ : Mu} (h : cl n μ = true) : ∀ k m, k < n → μ[k]? = some m → ∀ C fs, m = .ins C fs → ∀ f x, (f, x) ∈ fs → ∀ j, x = .o j → j < n := fun k m hk hm C fs e f x hx j ej => by
  have h1 := List.all_eq_true.mp h m (List.mem_of_getElem? (by rw [List.getElem?_take_of_lt hk]; exact hm))
  subst e
  have h2 := List.all_eq_true.mp h1 _ hx
  subst ej
  exact of_decide_eq_true h2
theorem Dx.cut {v : V} (h : Dx K Hm α v x) (c : okV n x) : Dx K Hm (α.take n) v x := by
  cases x with
  | d x => exact h
  | o j =>
    obtain ⟨a, h1, h2⟩ := h
    exact ⟨a, by rw [List.getElem?_take_of_lt c]; exact h1, h2⟩
theorem pre_cut (h : β <+: α) (hn : β.length ≤ n) : β <+: α.take n := by
  obtain ⟨t, rfl⟩ := h
  exact ⟨t.take (n - β.length), by rw [List.take_append, List.take_of_length_le hn]⟩
/-- slots and cells let go -/
theorem xm_less (h : XM K t ρ μ (.nx ρ1 μ1)) (n : Nat) (hn : μ.length ≤ n) (hc : cl n μ1 = true) (hl : ρ2.length = ρ1.length) (hw : ∀ (i : Nat) (x : SV), ρ2[i]? = some (some x) → ρ1[i]? = some (some x) ∧ okV n x) : XM K t ρ μ (.nx ρ2 (μ1.take n)) := fun L0 H0 Hm0 E σ H Hm α S f =>
  h L0 H0 Hm0 E σ H Hm α S fun σ' H' Hm' α' x p S' => f σ' H' Hm' (α'.take n) x (pre_cut p (by rw [S.sto.len]; exact hn)) ⟨S'.gr, by rw [hl]; exact S'.len, fun i x hi => by
    obtain ⟨h1, h2⟩ := hw i x hi
    obtain ⟨v, h3, h4⟩ := S'.sd i x h1
    exact ⟨v, h3, h4.cut h2⟩, S'.sto.take n (cl_ok hc), fun a ha => S'.fr a (List.mem_of_mem_take ha)⟩
theorem xm_lessR (h : XM K t ρ μ (.rt x μ1)) (n : Nat) (hn : μ.length ≤ n) (hc : cl n μ1 = true) (hx : okV n x) : XM K t ρ μ (.rt x (μ1.take n)) := fun L0 H0 Hm0 E σ H Hm α S f =>
  h L0 H0 Hm0 E σ H Hm α S fun v H' Hm' α' p g S' fr hv => f v H' Hm' (α'.take n) (pre_cut p (by rw [S.sto.len]; exact hn)) g (S'.take n (cl_ok hc)) (fun a ha => fr a (List.mem_of_mem_take ha)) (hv.cut hx)
/-- a cell's word made weaker -/
def MOle (m m' : MO) : Prop := ∀ (K : PySem.W.Frag) H Hm α a, MOk K H Hm α a m → MOk K H Hm α a m'
def MuLe (μ μ' : Mu) : Prop := μ.length = μ'.length ∧ ∀ (n : Nat) (m m' : MO), μ[n]? = some m → μ'[n]? = some m' → MOle m m'
theorem MOle.refl (m : MO) : MOle m m := fun _ _ _ _ _ h => h
theorem MuLe.cons {m m' : MO} (h : MOle m m') (t : MuLe μ μ1) : MuLe (m :: μ) (m' :: μ1) := by
  refine ⟨by rw [List.length_cons, List.length_cons, t.1], fun n a b h1 h2 => ?_⟩
  cases n with
  | zero =>
    cases h1
    cases h2
    exact h
  | succ n => exact t.2 n a b (by simpa using h1) (by simpa using h2)
theorem MuLe.refl (μ : Mu) : MuLe μ μ := ⟨rfl, fun n m m' h1 h2 => by rw [h1] at h2; cases h2; exact MOle.refl m⟩
theorem Sto.le (S : Sto K H Hm α μ) (h : MuLe μ μ1) : Sto K H Hm α μ1 := ⟨S.len.trans h.1, S.nd, S.hm, fun n a m h1 h2 => by
  obtain ⟨m', h3, h4⟩ := S.at h1
  exact h.2 n m' m h3 h2 K _ _ _ _ h4⟩
theorem xm_weak (h : XM K t ρ μ (.nx ρ1 μ1)) (l : MuLe μ1 μ2) : XM K t ρ μ (.nx ρ1 μ2) := fun L0 H0 Hm0 E σ H Hm α S f =>
  h L0 H0 Hm0 E σ H Hm α S fun σ' H' Hm' α' x p S' => f σ' H' Hm' α' x p ⟨S'.gr, S'.len, S'.sd, S'.sto.le l, S'.fr⟩
theorem xm_weakR (h : XM K t ρ μ (.rt x μ1)) (l : MuLe μ1 μ2) : XM K t ρ μ (.rt x μ2) := fun L0 H0 Hm0 E σ H Hm α S f =>
  h L0 H0 Hm0 E σ H Hm α S fun v H' Hm' α' p g S' fr hv => f v H' Hm' α' p g (S'.le l) fr hv
/-- a, b = e -/
theorem xm_unp {d d' : D} (h : EX K te ρ μ (.d (.tuple [d, d'])) μ2) : XM K (tAsg te (gTup K 2 (gCons (gName i) (gCons (gName j) gNil)))) ρ μ (.nx ((ρ.set i (some (.d d))).set j (some (.d d'))) μ2) := fun L0 H0 Hm0 E σ H Hm α S f =>
  h σ H Hm α S.gr.sub S.len S.sd S.sto _ fun vt H2 Hm2 α2 A hvt => by
    obtain ⟨a, xs, rfl, hx, hvs⟩ := dp_tup hvt
    obtain ⟨v, v', rfl, hv, hv'⟩ := dps2 hvs
    exact ⟨a, [v, v'], rfl, ex_t A.gr.sub hx, rfl, v, [v'], rfl, v', [], rfl, rfl, f _ H2 Hm2 α2 A.gr.em A.pre (((S.aft A).set (x := .d d) hv).set (x := .d d') hv')⟩
/-- xs.append(e) -/
theorem xm_app (hi : ρ[i]? = some (some (.o n))) (hm : μ[n]? = some (.lst ds)) (h : EX K te ρ μ (.d d) μ2) (hm2 : μ2[n]? = some (.lst ds)) (hz : ds.length ≤ 90000 := by first | assumption | decide | omega) :
    XM K (tDrop (tBM K "list" rAppend (tVar i) (tCons te tNil))) ρ μ (.nx ρ (μ2.set n (.lst (ds ++ [d])))) := fun L0 H0 Hm0 E σ H Hm α S f => by
  obtain ⟨v, h1, a, ha, rfl⟩ := S.sd i _ hi
  obtain ⟨vs, k1, k2⟩ := S.sto.ok n a _ ha hm
  refine ⟨.ref a, h1, .inl ⟨rfl, vs, .inl (.inl k1)⟩, ?_⟩
  refine h σ H Hm α S.gr.sub S.len S.sd S.sto _ fun v H2 Hm2 α2 A hv => ?_
  have ha2 := pre_get A.pre ha
  obtain ⟨ws, k3, k4⟩ := A.sto.ok n a _ ha2 hm2
  refine ⟨a, ws, v, rfl, rfl, k3, sz_lt (by rw [k4.len]; omega), ?_⟩
  have B := A.trans (Aft.put A.gr.sub A.sto (o := .lst (ws ++ [v])) (m := .lst (ds ++ [d])) ha2 ⟨ws ++ [v], upd_same, k4.snoc hv⟩)
  exact f σ _ Hm2 α2 B.gr.em B.pre (S.aft B)
/-- xs.extend(e) -/
theorem xm_ext (hi : ρ[i]? = some (some (.o n))) (hm : μ[n]? = some (.lst ds)) (h : EX K te ρ μ (.d d) μ2) (hm2 : μ2[n]? = some (.lst ds)) (hd : d = .list es ∨ d = .tuple es) (hz : ds.length + es.length ≤ 90000 := by first | assumption | decide | omega) :
    XM K (tDrop (tBM K "list" (rExtA K) (tVar i) (tCons te tNil))) ρ μ (.nx ρ (μ2.set n (.lst (ds ++ es)))) := fun L0 H0 Hm0 E σ H Hm α S f => by
  obtain ⟨v, h1, a, ha, rfl⟩ := S.sd i _ hi
  obtain ⟨vs, k1, k2⟩ := S.sto.ok n a _ ha hm
  refine ⟨.ref a, h1, .inl ⟨rfl, vs, .inl (.inl k1)⟩, ?_⟩
  refine h σ H Hm α S.gr.sub S.len S.sd S.sto _ fun v H2 Hm2 α2 A hv => ?_
  have ha2 := pre_get A.pre ha
  obtain ⟨ws, k3, k4⟩ := A.sto.ok n a _ ha2 hm2
  obtain ⟨b, zs, rfl, hb, hzs⟩ : ∃ b zs, v = .ref b ∧ (SqL K H2 b zs ∨ SqT K H2 b zs) ∧ DpAll K Hm2 zs es := by
    rcases hd with rfl | rfl
    · obtain ⟨b, zs, e, h5, h6⟩ := dp_lst hv
      exact ⟨b, zs, e, .inl (ex_l A.gr.sub h5), h6⟩
    · obtain ⟨b, zs, e, h5, h6⟩ := dp_tup hv
      exact ⟨b, zs, e, .inr (ex_t A.gr.sub h5), h6⟩
  refine ⟨a, b, ws, zs, rfl, rfl, k3, hb, sz_of (by rw [k4.len, hzs.len]; omega), ?_⟩
  have B := A.trans (Aft.put A.gr.sub A.sto (o := .lst (ws ++ zs)) (m := .lst (ds ++ es)) ha2 ⟨ws ++ zs, upd_same, k4.app hzs⟩)
  exact f σ _ Hm2 α2 B.gr.em B.pre (S.aft B)
/-- the attributes behind a store -/
def putS (f : Str) (x : SV) : List (Str × SV) → List (Str × SV)
  | [] => [(f, x)]
  | p :: ps => if p.1 = f then (f, x) :: ps else p :: putS f x ps
theorem FAll.put {f : Str} {v : V} (hv : Dx K Hm α v x) : ∀ {vs : List (Str × V)} {xs : List (Str × SV)}, FAll K Hm α vs xs → FAll K Hm α (putF f v vs) (putS f x xs)
  | _, _, .nil => .cons hv .nil
  | _, _, .cons (f := g) h t => by
    unfold putF putS
    by_cases e : g = f
    · rw [if_pos e]
      simp only [e, if_true]
      exact .cons hv t
    · rw [if_neg e]
      simp only [e, if_false]
      exact .cons h (FAll.put hv t)
/-- o.f = e, o in slot i -/
theorem xm_fld {C : Addr} {fs : List (Str × SV)} {f : Str} (h : EX K te ρ μ x μ2) (hi : ρ[i]? = some (some (.o n))) (hm : μ2[n]? = some (.ins C fs)) (c : Cls K C) (na : NoAttr K C f) (hz : fs.length < 1000 := by decide) :
    XM K (sFld K (tVar i) te f) ρ μ (.nx ρ (μ2.set n (.ins C (putS f x fs)))) := fun L0 H0 Hm0 E σ H Hm α S g =>
  h σ H Hm α S.gr.sub S.len S.sd S.sto _ fun v H2 Hm2 α2 A hv => by
    obtain ⟨w, h1, a, ha, rfl⟩ := (S.aft A).sd i _ hi
    obtain ⟨dx, vs, k1, k2⟩ := A.sto.ok n a _ ha hm
    refine ⟨.ref a, h1, a, C, dx, vs, rfl, k1, c, na, by rw [k2.len]; exact hz, ?_⟩
    have B := A.trans (Aft.put A.gr.sub A.sto (o := .ins C dx (putF f v vs)) (m := .ins C (putS f x fs)) ha ⟨dx, _, upd_same, k2.put hv⟩)
    exact g σ _ Hm2 α2 B.gr.em B.pre (S.aft B)
end

/-! ### loops -/
def GoX (K : PySem.W.Frag) (tu : TS) (j : Nat) (items : List D) (ρs : Nat → Rx) (μs : Nat → Mu) (o : OutX) : Prop :=
  ∃ m, m ≤ items.length ∧ (∀ i d, i < m → items[i]? = some d → XM K tu ((ρs i).set j (some (.d d))) (μs i) (.nx (ρs (i + 1)) (μs (i + 1)))) ∧
    ((m = items.length ∧ o = .nx (ρs m) (μs m)) ∨ ∃ d, items[m]? = some d ∧ ((∃ r μ', o = .rt r μ' ∧ XM K tu ((ρs m).set j (some (.d d))) (μs m) (.rt r μ')) ∨ ∃ ρ' μ', o = .nx ρ' μ' ∧ XM K tu ((ρs m).set j (some (.d d))) (μs m) (.bk ρ' μ')))
theorem GoX.all {K : PySem.W.Frag} {tu : TS} {j : Nat} {items : List D} {ρs : Nat → Rx} {μs : Nat → Mu} (h : ∀ i d, items[i]? = some d → XM K tu ((ρs i).set j (some (.d d))) (μs i) (.nx (ρs (i + 1)) (μs (i + 1)))) : GoX K tu j items ρs μs (.nx (ρs items.length) (μs items.length)) :=
  ⟨items.length, Nat.le_refl _, fun i d _ hd => h i d hd, .inl ⟨rfl, rfl⟩⟩
def GoXI (K : PySem.W.Frag) (L0 : List Addr) (H0 Hm0 Hb : Hp) (αb : List Addr) (ρs : Nat → Rx) (μs : Nat → Mu) (m i : Nat) (σ : L2.St) (H : Hp) : Prop := i ≤ m ∧ ∃ Hm α, Ex Hb Hm ∧ αb <+: α ∧ SM K L0 H0 Hm0 H Hm σ (ρs i) α (μs i)
section
variable {K : PySem.W.Frag} {L0 : List Addr} {H0 Hm0 H Hm H2 Hm2 Hb Hb2 : Hp} {σ : L2.St} {ρ ρ1 ρ2 : Rx} {α α2 αb : List Addr} {μ μ1 μ2 μ3 : Mu} {E : Ends} {o : OutX} {t u w tu : TS} {te ta tl : TE} {tt : TT} {x y : SV} {d : D} {ds es items : List D} {i j n m : Nat} {ρs : Nat → Rx} {μs : Nat → Mu} {v : V}
theorem gox_turn
    (h1 : ∀ i d, i < m → items[i]? = some d → XM K tu ((ρs i).set j (some (.d d))) (μs i) (.nx (ρs (i + 1)) (μs (i + 1))))
    (h2 : (m = items.length ∧ o = .nx (ρs m) (μs m)) ∨ ∃ d, items[m]? = some d ∧ ((∃ r μ', o = .rt r μ' ∧ XM K tu ((ρs m).set j (some (.d d))) (μs m) (.rt r μ')) ∨ ∃ ρ' μ', o = .nx ρ' μ' ∧ XM K tu ((ρs m).set j (some (.d d))) (μs m) (.bk ρ' μ')))
    (f : FnX K L0 H0 Hm0 Hb αb E o) (hi : items[i]? = some d) (hv : Dp K Hb v d) (c : GoXI K L0 H0 Hm0 Hb αb ρs μs m i σ H) :
    tu { E with nx := GoXI K L0 H0 Hm0 Hb αb ρs μs m (i + 1), ct := GoXI K L0 H0 Hm0 Hb αb ρs μs m (i + 1), bk := E.nx } (σ.set j (some v)) H := by
  obtain ⟨hm, Hm, α, em, pa, S⟩ := c
  have S' := S.set (i := j) (x := .d d) (Dp.mono hv em)
  by_cases hlt : i < m
  · exact h1 i d hlt hi L0 H0 Hm0 _ _ H Hm α S' fun σ' H' Hm' α' x p S2 => ⟨hlt, Hm', α', em.trans x, pa.trans p, S2⟩
  · have e : i = m := by omega
    subst e
    rcases h2 with ⟨z, _⟩ | ⟨d2, hd2, h3⟩
    · rw [List.getElem?_eq_none (by omega)] at hi; cases hi
    · rw [hi] at hd2
      cases hd2
      rcases h3 with ⟨r, μ', rfl, hx⟩ | ⟨ρ', μ', rfl, hx⟩
      · exact hx L0 H0 Hm0 _ _ H Hm α S' fun v H' Hm' α' p g S2 fr hv' => f v H' Hm' α' (pa.trans p) g S2 fr hv'
      · exact hx L0 H0 Hm0 _ _ H Hm α S' fun σ' H' Hm' α' x p S2 => f σ' H' Hm' α' (em.trans x) (pa.trans p) S2
theorem gox_end (hm : m ≤ items.length)
    (h2 : (m = items.length ∧ o = .nx (ρs m) (μs m)) ∨ ∃ d, items[m]? = some d ∧ ((∃ r μ', o = .rt r μ' ∧ XM K tu ((ρs m).set j (some (.d d))) (μs m) (.rt r μ')) ∨ ∃ ρ' μ', o = .nx ρ' μ' ∧ XM K tu ((ρs m).set j (some (.d d))) (μs m) (.bk ρ' μ')))
    (f : FnX K L0 H0 Hm0 Hb αb E o) (c : GoXI K L0 H0 Hm0 Hb αb ρs μs m items.length σ H) : E.nx σ H := by
  obtain ⟨hle, Hm, α, em, pa, S⟩ := c
  rcases h2 with ⟨z, rfl⟩ | ⟨d2, hd2, _⟩
  · rw [← z] at S
    exact f σ H Hm α em pa S
  · rw [List.getElem?_eq_none (by omega)] at hd2; cases hd2
theorem xm_forT (ρs : Nat → Rx) (μs : Nat → Mu) (hsrc : EX K tl ρ μ (.d (.tuple items)) μ1) (h0 : ρs 0 = ρ) (h0' : μs 0 = μ1) (g : GoX K tu j items ρs μs o) : XM K (tFor (iTup K tl) (gName j) tu) ρ μ o := fun L0 H0 Hm0 E σ H Hm α S f => by
  obtain ⟨m, hm, h1, h2⟩ := g
  refine hsrc σ H Hm α S.gr.sub S.len S.sd S.sto _ fun v H1 Hm1 α1 A hv => ?_
  have S1 := S.aft A
  have f1 := f.mono A.gr.em A.pre
  obtain ⟨a, xs, rfl, hx, ha⟩ := dp_tup hv
  have hl := ha.len
  refine ⟨a, rfl, ⟨xs, ex_t S1.gr.sub hx⟩, ?_⟩
  refine for_tup (xs := xs) (GoXI K L0 H0 Hm0 Hm1 α1 ρs μs m) ⟨Nat.zero_le _, Hm1, α1, Ex.refl _, List.prefix_refl _, by rw [h0, h0']; exact S1⟩ (fun i σ' H' _ c => ?_) (fun i x σ' H' hi c => ?_) (fun σ' H' c => ?_)
  · obtain ⟨_, Hm', α', x, _, S'⟩ := c
    exact ex_t S'.gr.sub (ex_t x hx)
  · obtain ⟨d, hd, hxd⟩ := ha.get' hi
    exact gox_turn h1 h2 f1 hd hxd c
  · rw [hl] at c
    exact gox_end hm h2 f1 c
theorem xm_forL (ρs : Nat → Rx) (μs : Nat → Mu) (hsrc : EX K tl ρ μ (.d (.list items)) μ1) (h0 : ρs 0 = ρ) (h0' : μs 0 = μ1) (g : GoX K tu j items ρs μs o) : XM K (tFor (iList K tl) (gName j) tu) ρ μ o := fun L0 H0 Hm0 E σ H Hm α S f => by
  obtain ⟨m, hm, h1, h2⟩ := g
  refine hsrc σ H Hm α S.gr.sub S.len S.sd S.sto _ fun v H1 Hm1 α1 A hv => ?_
  have S1 := S.aft A
  have f1 := f.mono A.gr.em A.pre
  obtain ⟨a, xs, rfl, hx, ha⟩ := dp_lst hv
  have hl := ha.len
  refine ⟨a, rfl, ⟨xs, ex_l S1.gr.sub hx⟩, ?_⟩
  refine for_list (xs := xs) (GoXI K L0 H0 Hm0 Hm1 α1 ρs μs m) ⟨Nat.zero_le _, Hm1, α1, Ex.refl _, List.prefix_refl _, by rw [h0, h0']; exact S1⟩ (fun i σ' H' _ c => ?_) (fun i x σ' H' hi c => ?_) (fun σ' H' c => ?_)
  · obtain ⟨_, Hm', α', x, _, S'⟩ := c
    exact ex_l S'.gr.sub (ex_l x hx)
  · obtain ⟨d, hd, hxd⟩ := ha.get' hi
    exact gox_turn h1 h2 f1 hd hxd c
  · rw [hl] at c
    exact gox_end hm h2 f1 c
theorem xm_forR1 {ta : TA} {n : Int} (ρs : Nat → Rx) (μs : Nat → Mu) (hsrc : EXs K ta ρ μ [.d (.int n)] μ1) (hn : n ≤ 1000000000) (hn0 : -1000000000 ≤ n) (h0 : ρs 0 = ρ) (h0' : μs 0 = μ1) (g : GoX K tu j (rngD 0 n.toNat) ρs μs o) : XM K (tFor (iRng1 ta) (gName j) tu) ρ μ o := fun L0 H0 Hm0 E σ H Hm α S f => by
  obtain ⟨m, hm, h1, h2⟩ := g
  refine hsrc σ H Hm α S.gr.sub S.len S.sd S.sto _ fun vs H1 Hm1 α1 A hv => ?_
  have S1 := S.aft A
  have f1 := f.mono A.gr.em A.pre
  have ev : vs = [.int n] := dp_ints (ns := [n]) (DxAll.data (ds := [.int n]) hv)
  subst ev
  have hl := rngD_len 0 n.toNat
  refine ⟨n, rfl, by omega, by omega, ?_⟩
  refine for_range (lo := 0) (n := n.toNat) (GoXI K L0 H0 Hm0 Hm1 α1 ρs μs m) ⟨Nat.zero_le _, Hm1, α1, Ex.refl _, List.prefix_refl _, by rw [h0, h0']; exact S1⟩ (fun i σ' H' hi c => ?_) (fun σ' H' c => ?_)
  · exact gox_turn h1 h2 f1 (rngD_get hi) (.int _) c
  · rw [← hl] at c
    exact gox_end hm h2 f1 c
/-- while, turn by turn -/
inductive WhX (K : PySem.W.Frag) (tt : TT) (tu : TS) : Nat → Rx → Mu → OutX → Prop
  | stop {ρ : Rx} {μ μ1 : Mu} : TX K tt ρ μ false μ1 → WhX K tt tu 0 ρ μ (.nx ρ μ1)
  | brk {ρ : Rx} {μ μ1 : Mu} {ρ' : Rx} {μ' : Mu} : TX K tt ρ μ true μ1 → XM K tu ρ μ1 (.bk ρ' μ') → WhX K tt tu 0 ρ μ (.nx ρ' μ')
  | ret {ρ : Rx} {μ μ1 : Mu} {x : SV} {μ' : Mu} : TX K tt ρ μ true μ1 → XM K tu ρ μ1 (.rt x μ') → WhX K tt tu 0 ρ μ (.rt x μ')
  | step {m : Nat} {ρ : Rx} {μ μ1 : Mu} {ρ' : Rx} {μ' : Mu} {o : OutX} : TX K tt ρ μ true μ1 → XM K tu ρ μ1 (.nx ρ' μ') → WhX K tt tu m ρ' μ' o → WhX K tt tu (m + 1) ρ μ o
theorem xm_wh (h : WhX K tt tu m ρ μ o) : XM K (tWhile tt tu) ρ μ o := fun L0 H0 Hm0 E σ H Hm α S f => by
  refine ⟨fun k σ' H' => ∃ ρ' μ' Hm' α', WhX K tt tu k ρ' μ' o ∧ Ex Hm Hm' ∧ α <+: α' ∧ SM K L0 H0 Hm0 H' Hm' σ' ρ' α' μ', ⟨m, ρ, μ, Hm, α, h, Ex.refl _, List.prefix_refl _, S⟩, ?_⟩
  rintro k σ1 H1 ⟨ρ', μ', Hm1, α1, hw, e1, p1, S1⟩
  cases hw with
  | stop c1 =>
    refine c1 σ1 H1 Hm1 α1 S1.gr.sub S1.len S1.sd S1.sto _ fun H2 Hm2 α2 A => ?_
    simp only [Bool.false_eq_true, if_false]
    exact f σ1 H2 Hm2 α2 (e1.trans A.gr.em) (p1.trans A.pre) (S1.aft A)
  | brk c1 c2 =>
    refine c1 σ1 H1 Hm1 α1 S1.gr.sub S1.len S1.sd S1.sto _ fun H2 Hm2 α2 A => ?_
    simp only [if_true]
    exact ⟨fun _ _ => False, fun _ _ z => z.elim, c2 L0 H0 Hm0 { E with nx := fun _ _ => False, ct := fun _ _ => False, bk := E.nx } σ1 H2 Hm2 α2 (S1.aft A) fun σ' H' Hm' α' x p S' => f σ' H' Hm' α' ((e1.trans A.gr.em).trans x) ((p1.trans A.pre).trans p) S'⟩
  | ret c1 c2 =>
    refine c1 σ1 H1 Hm1 α1 S1.gr.sub S1.len S1.sd S1.sto _ fun H2 Hm2 α2 A => ?_
    simp only [if_true]
    exact ⟨fun _ _ => False, fun _ _ z => z.elim, c2 L0 H0 Hm0 { E with nx := fun _ _ => False, ct := fun _ _ => False, bk := E.nx } σ1 H2 Hm2 α2 (S1.aft A) fun v H' Hm' α' p g S' fr hv => f v H' Hm' α' ((p1.trans A.pre).trans p) g S' fr hv⟩
  | @step m' _ _ _ ρ2 μ2 _ c1 c2 c3 =>
    refine c1 σ1 H1 Hm1 α1 S1.gr.sub S1.len S1.sd S1.sto _ fun H2 Hm2 α2 A => ?_
    simp only [if_true]
    exact ⟨_, fun σ' H' hN => hN, c2 L0 H0 Hm0 { E with nx := fun σ' H' => ∃ k', k' < m' + 1 ∧ ∃ ρ' μ' Hm' α', WhX K tt tu k' ρ' μ' o ∧ Ex Hm Hm' ∧ α <+: α' ∧ SM K L0 H0 Hm0 H' Hm' σ' ρ' α' μ', ct := fun σ' H' => ∃ k', k' < m' + 1 ∧ ∃ ρ' μ' Hm' α', WhX K tt tu k' ρ' μ' o ∧ Ex Hm Hm' ∧ α <+: α' ∧ SM K L0 H0 Hm0 H' Hm' σ' ρ' α' μ', bk := E.nx } σ1 H2 Hm2 α2 (S1.aft A) fun σ' H' Hm' α' x p S' => ⟨m', Nat.lt_succ_self _, ρ2, μ2, Hm', α', c3, (e1.trans A.gr.em).trans x, (p1.trans A.pre).trans p, S'⟩⟩
end
end LM

set_option Elab.async false
set_option linter.all false
set_option maxRecDepth 100000
set_option maxHeartbeats 1000000
/-! Lm11: comprehensions, calls, defs over cells. -/
namespace LM
open PySem PySem.Spec PyProof.Rows L2 Evl
section
variable {K : PySem.W.Frag} {H0 Hm0 H Hm H1 Hm1 H2 Hm2 H' : Hp} {σ : L2.St} {ρ ρ1 ρ2 : Rx} {α α1 α2 β : List Addr} {μ μ1 μ2 μ3 : Mu} {t u w : TS} {te ta tl : TE} {tt : TT} {x y : SV} {d d' : D} {ds es items : List D} {i j n : Nat} {Dl p : Addr} {vs : List V} {v : V}
/-- a list of one's own is shown -/
theorem Aft.show (A : Aft K α H Hm μ α2 H2 Hm2) (hp : H p = none) (hm : Hm2 p = none) (na : p ∉ α2) (h2 : H2 p = some (.lst vs)) : Aft K α H Hm μ α2 H2 (upd Hm2 p (.lst vs)) := by
  have em : Ex Hm2 (upd Hm2 p (.lst vs)) := Ex.new hm
  refine ⟨A.pre, A.nw, ⟨A.gr.ex, A.gr.th, A.gr.em.trans em, fun b o h => ?_, fun b o h n => ?_⟩, ⟨A.sto.len, A.sto.nd, fun b hb => ?_, fun k b m h1 h3 => (A.sto.ok k b m h1 h3).move (fun _ e => e) em (List.prefix_refl _)⟩⟩
  · by_cases e : b = p
    · subst e; rw [upd_same] at h; cases h; exact h2
    · rw [upd_ne e] at h; exact A.gr.sub b o h
  · rw [upd_ne (ne_of_none h hp)]; exact A.gr.own b o h n
  · have : b ≠ p := fun e => na (e ▸ hb)
    rw [upd_ne this]; exact A.sto.hm b hb
/-- .. is changed, while it stands apart -/
theorem Aft.apart (A : Aft K α H Hm μ α2 H2 Hm2) (hp : H p = none) (hm : Hm2 p = none) (na : p ∉ α2) {o : HO} : Aft K α H Hm μ α2 (upd H2 p o) Hm2 := by
  refine ⟨A.pre, A.nw, ⟨fun b u nb h => ?_, fun b u h => ?_, A.gr.em, upd_sub A.gr.sub hm, A.gr.own⟩, ⟨A.sto.len, A.sto.nd, A.sto.hm, fun k b m h1 h3 => ?_⟩⟩
  · rw [upd_ne (ne_of_none h hp)]; exact A.gr.ex b u nb h
  · rw [upd_ne (ne_of_none h hp)]; exact A.gr.th b u h
  · have : b ≠ p := fun e => na (e ▸ List.mem_of_getElem? h1)
    exact (A.sto.ok k b m h1 h3).move (fun o' e => by rw [upd_ne this]; exact e) (Ex.refl _) (List.prefix_refl _)
def CpX (K : PySem.W.Frag) (α : List Addr) (H1 Hm1 : Hp) (Dl : Addr) (μ : Mu) (es : List D) (H' : Hp) : Prop := ∃ Hm' α' acc, Aft K α H1 Hm1 μ α' H' Hm' ∧ Hm' Dl = none ∧ Dl ∉ α' ∧ H' Dl = some (.lst acc) ∧ DpAll K Hm' acc es
def TurnX (K : PySem.W.Frag) (t : TT) (te : TE) (ρ : Rx) (j : Nat) (d : D) (μ μ2 : Mu) (es es2 : List D) : Prop :=
  ∃ b μm, TX K t ((wipeX ρ [j]).set j (some (.d d))) μ b μm ∧ (b = true → ∃ d', EX K te ((wipeX ρ [j]).set j (some (.d d))) μm (.d d') μ2 ∧ es2 = es ++ [d']) ∧ (b = false → μm = μ2 ∧ es2 = es)
theorem cpx_start (s : Ex Hm1 H1) (S : Sto K H1 Hm1 α μ) (hD : H1 Dl = none) : CpX K α H1 Hm1 Dl μ [] (upd H1 Dl (.lst [])) :=
  ⟨Hm1, α, [], Aft.ofGr S (Gr.priv s hD), fresh_back s hD, S.fresh hD, upd_same, .nil⟩
theorem cpx_turn {t : TT} (hD : H1 Dl = none) (s1 : Ex Hm1 H1) (l : ρ.length ≤ σ.length) (hs : Sx K Hm1 α σ ρ) (hx : Dp K Hm1 v d) (p : CpX K α H1 Hm1 Dl μ es H') (hz : es.length < 100000) (T : TurnX K t te ρ j d μ μ2 es ds) :
    t ((wipe σ [j]).set j (some v)) H' fun c H3 => if c = true then te ((wipe σ [j]).set j (some v)) H3 fun y H4 => ∃ acc, H4 Dl = some (.lst acc) ∧ acc.length < sizeLine ∧ CpX K α H1 Hm1 Dl μ2 ds (upd H4 Dl (.lst (acc ++ [y])))
      else CpX K α H1 Hm1 Dl μ2 ds H3 := by
  obtain ⟨Hm', α', acc, A, n1, n2, n3, n4⟩ := p
  obtain ⟨b, μm, ht, he, hf⟩ := T
  have l2 : ((wipeX ρ [j]).set j (some (.d d))).length ≤ ((wipe σ [j]).set j (some v)).length := by rw [List.length_set, List.length_set, wipeX_length, wipe_length]; exact l
  have l3 : (wipeX ρ [j]).length ≤ (wipe σ [j]).length := by rw [wipeX_length, wipe_length]; exact l
  have S : Sx K Hm' α' ((wipe σ [j]).set j (some v)) ((wipeX ρ [j]).set j (some (.d d))) := ((hs.aft A).wipe [j]).set l3 j (Dp.mono hx A.gr.em)
  refine ht _ H' Hm' α' A.gr.sub l2 S A.sto _ fun H3 Hm3 α3 A3 => ?_
  have keep : ∀ {H4 Hm4 α4 μ4}, Aft K α' H' Hm' μ4 α4 H4 Hm4 → Hm4 Dl = none ∧ Dl ∉ α4 ∧ H4 Dl = some (.lst acc) ∧ DpAll K Hm4 acc es := fun A4 =>
    ⟨A4.gr.own _ _ n3 n1, (fun h => by have := A4.nw Dl h n2; rw [n3] at this; cases this), A4.gr.ex _ _ n2 n3, n4.mono A4.gr.em⟩
  cases b with
  | true =>
    simp only [if_true]
    obtain ⟨e', he', rfl⟩ := he rfl
    refine he' _ H3 Hm3 α3 A3.gr.sub l2 (S.aft A3) A3.sto _ fun y H4 Hm4 α4 A4 hy => ?_
    have A5 := A3.trans A4
    obtain ⟨k1, k2, k3, k4⟩ := keep A5
    exact ⟨acc, k3, sz_lt (by rw [n4.len]; exact hz), Hm4, α4, acc ++ [y], (A.trans A5).apart hD k1 k2, k1, k2, upd_same, k4.snoc hy⟩
  | false =>
    simp only [Bool.false_eq_true, if_false]
    obtain ⟨rfl, rfl⟩ := hf rfl
    obtain ⟨k1, k2, k3, k4⟩ := keep A3
    exact ⟨Hm3, α3, acc, A.trans A3, k1, k2, k3, k4⟩
theorem cpx_end {Q : VK} (hD : H1 Dl = none) (c : CpX K α H1 Hm1 Dl μ es H') (q : ∀ v H2 Hm2 α2, Aft K α H1 Hm1 μ α2 H2 Hm2 → Dx K Hm2 α2 v (.d (.list es)) → Q v H2) : Q (.ref Dl) H' := by
  obtain ⟨Hm', α', acc, A, n1, n2, n3, n4⟩ := c
  exact q _ _ _ α' (A.show hD n1 n2 n3) (Dp.lst (.inl (.inl upd_same)) (n4.mono (Ex.new n1)))
theorem ex_lcT {t : TT} (μs : Nat → Mu) (esf : Nat → List D) (h0 : esf 0 = []) (hsrc : EX K tl ρ μ (.d (.tuple items)) (μs 0)) (turn : ∀ i d, items[i]? = some d → TurnX K t te ρ j d (μs i) (μs (i + 1)) (esf i) (esf (i + 1))) (hz : ∀ i, i ≤ items.length → (esf i).length ≤ 50000) :
    EX K (tLc (iTup K tl) (gName j) t te [j]) ρ μ (.d (.list (esf items.length))) (μs items.length) := fun σ H Hm α s l hs S Q q => by
  refine hsrc σ H Hm α s l hs S _ fun v H1 Hm1 α1 A1 h1 => ?_
  obtain ⟨a, xs, rfl, hx, ha⟩ := dp_tup h1
  refine ⟨a, rfl, ⟨xs, ex_t A1.gr.sub hx⟩, fun Dl hD => ?_⟩
  have hl := ha.len
  refine lc_tup (xs := xs) (fun i H' => CpX K α1 H1 Hm1 Dl (μs i) (esf i) H') ?_ (fun i H' _ c => ?_) (fun i x H' hi c => ?_) (fun H' c => ?_)
  · rw [h0]; exact cpx_start A1.gr.sub A1.sto hD
  · obtain ⟨_, _, _, A, _⟩ := c
    exact ex_t A.gr.sub (ex_t A.gr.em hx)
  · obtain ⟨d, hd, hxd⟩ := ha.get' hi
    exact ⟨wipe_back, cpx_turn hD A1.gr.sub l (hs.aft A1) hxd c (by have := hz i (by have := (List.getElem?_eq_some_iff.mp hd).1; omega); omega) (turn i d hd)⟩
  · rw [hl] at c
    exact cpx_end hD c fun v H2 Hm2 α2 A h => q v H2 Hm2 α2 (A1.trans A) h
theorem ex_lcL {t : TT} (μs : Nat → Mu) (esf : Nat → List D) (h0 : esf 0 = []) (hsrc : EX K tl ρ μ (.d (.list items)) (μs 0)) (turn : ∀ i d, items[i]? = some d → TurnX K t te ρ j d (μs i) (μs (i + 1)) (esf i) (esf (i + 1))) (hz : ∀ i, i ≤ items.length → (esf i).length ≤ 50000) :
    EX K (tLc (iList K tl) (gName j) t te [j]) ρ μ (.d (.list (esf items.length))) (μs items.length) := fun σ H Hm α s l hs S Q q => by
  refine hsrc σ H Hm α s l hs S _ fun v H1 Hm1 α1 A1 h1 => ?_
  obtain ⟨a, xs, rfl, hx, ha⟩ := dp_lst h1
  refine ⟨a, rfl, ⟨xs, ex_l A1.gr.sub hx⟩, fun Dl hD => ?_⟩
  have hl := ha.len
  refine lc_list (xs := xs) (fun i H' => CpX K α1 H1 Hm1 Dl (μs i) (esf i) H') ?_ (fun i H' _ c => ?_) (fun i x H' hi c => ?_) (fun H' c => ?_)
  · rw [h0]; exact cpx_start A1.gr.sub A1.sto hD
  · obtain ⟨_, _, _, A, _⟩ := c
    exact ex_l A.gr.sub (ex_l A.gr.em hx)
  · obtain ⟨d, hd, hxd⟩ := ha.get' hi
    exact ⟨wipe_back, cpx_turn hD A1.gr.sub l (hs.aft A1) hxd c (by have := hz i (by have := (List.getElem?_eq_some_iff.mp hd).1; omega); omega) (turn i d hd)⟩
  · rw [hl] at c
    exact cpx_end hD c fun v H2 Hm2 α2 A h => q v H2 Hm2 α2 (A1.trans A) h
theorem ex_lcR1 {t : TT} {ts : TA} {k : Int} (μs : Nat → Mu) (esf : Nat → List D) (h0 : esf 0 = []) (hsrc : EXs K ts ρ μ [.d (.int k)] (μs 0)) (hk : 0 ≤ k ∧ k ≤ 50000) (turn : ∀ i : Nat, (i : Int) < k → TurnX K t te ρ j (.int (i : Int)) (μs i) (μs (i + 1)) (esf i) (esf (i + 1))) (hz : ∀ i : Nat, (i : Int) ≤ k → (esf i).length ≤ 50000) :
    EX K (tLc (iRng1 ts) (gName j) t te [j]) ρ μ (.d (.list (esf k.toNat))) (μs k.toNat) := fun σ H Hm α s l hs S Q q => by
  refine hsrc σ H Hm α s l hs S _ fun vs H1 Hm1 α1 A1 h1 => ?_
  have ev : vs = [.int k] := dp_ints (ns := [k]) (DxAll.data (ds := [.int k]) h1)
  subst ev
  refine ⟨k, rfl, by omega, by omega, fun Dl hD => ?_⟩
  refine lc_range (lo := 0) (n := k.toNat) (Qd := Q (.ref Dl)) (fun i H' => CpX K α1 H1 Hm1 Dl (μs i) (esf i) H') ?_ (fun i H' hi c => ?_) (fun H' c => ?_)
  · rw [h0]; exact cpx_start A1.gr.sub A1.sto hD
  · refine ⟨wipe_back, ?_⟩
    have T := turn i (by omega)
    rw [show (.int (0 + (i : Int)) : V) = .int (i : Int) by rw [Int.zero_add]]
    exact cpx_turn hD A1.gr.sub l (hs.aft A1) (.int _) c (by have := hz i (by omega); omega) T
  · exact cpx_end hD c fun v H2 Hm2 α2 A h => q v H2 Hm2 α2 (A1.trans A) h
theorem tx_yes : TX K tYes ρ μ true μ := fun _ H Hm α s _ _ S _ q => q H Hm α (Aft.refl s S)
theorem turn_map (he : EX K te ((wipeX ρ [j]).set j (some (.d d))) μ (.d d') μ2) : TurnX K tYes te ρ j d μ μ2 es (es ++ [d']) := ⟨true, μ, tx_yes, fun _ => ⟨d', he, rfl⟩, fun z => by cases z⟩
theorem take_map {f : D → D} (h : items[i]? = some d) : (items.take (i + 1)).map f = (items.take i).map f ++ [f d] := by
  rw [List.take_add_one, h, List.map_append]; rfl
/-- a comprehension whose elements leave the cells as they are -/
theorem ex_mapT (f : D → D) (hsrc : EX K tl ρ μ (.d (.tuple items)) μ1) (he : ∀ d ∈ items, EX K te ((wipeX ρ [j]).set j (some (.d d))) μ1 (.d (f d)) μ1) (hz : items.length ≤ 50000 := by first | assumption | decide | omega) :
    EX K (tLc (iTup K tl) (gName j) tYes te [j]) ρ μ (.d (.list (items.map f))) μ1 := by
  have h := ex_lcT (K := K) (t := tYes) (te := te) (j := j) (fun _ => μ1) (fun i => (items.take i).map f) rfl hsrc (fun i d hd => by
    rw [take_map hd]
    exact turn_map (he d (List.mem_of_getElem? hd))) (fun i hi => by rw [List.length_map, List.length_take]; omega)
  rw [List.take_length] at h
  exact h
theorem ex_mapL (f : D → D) (hsrc : EX K tl ρ μ (.d (.list items)) μ1) (he : ∀ d ∈ items, EX K te ((wipeX ρ [j]).set j (some (.d d))) μ1 (.d (f d)) μ1) (hz : items.length ≤ 50000 := by first | assumption | decide | omega) :
    EX K (tLc (iList K tl) (gName j) tYes te [j]) ρ μ (.d (.list (items.map f))) μ1 := by
  have h := ex_lcL (K := K) (t := tYes) (te := te) (j := j) (fun _ => μ1) (fun i => (items.take i).map f) rfl hsrc (fun i d hd => by
    rw [take_map hd]
    exact turn_map (he d (List.mem_of_getElem? hd))) (fun i hi => by rw [List.length_map, List.length_take]; omega)
  rw [List.take_length] at h
  exact h
theorem turn_filt {t : TT} (p : D → Bool) (f : D → D) (h : items[i]? = some d) (ht : TX K t ((wipeX ρ [j]).set j (some (.d d))) μ (p d) μ) (he : p d = true → EX K te ((wipeX ρ [j]).set j (some (.d d))) μ (.d (f d)) μ) : TurnX K t te ρ j d μ μ (filtmap p f (items.take i)) (filtmap p f (items.take (i + 1))) := by
  rw [filtmap_take p f h]
  refine ⟨p d, μ, ht, fun c => ⟨f d, he c, by rw [if_pos c]⟩, fun c => ⟨rfl, by rw [if_neg (by rw [c]; exact Bool.false_ne_true), List.append_nil]⟩⟩
theorem ex_filtT {t : TT} (p : D → Bool) (f : D → D) (hsrc : EX K tl ρ μ (.d (.tuple items)) μ1) (ht : ∀ d ∈ items, TX K t ((wipeX ρ [j]).set j (some (.d d))) μ1 (p d) μ1) (he : ∀ d ∈ items, p d = true → EX K te ((wipeX ρ [j]).set j (some (.d d))) μ1 (.d (f d)) μ1) (hz : items.length ≤ 50000 := by first | assumption | decide | omega) :
    EX K (tLc (iTup K tl) (gName j) t te [j]) ρ μ (.d (.list ((items.filter p).map f))) μ1 := by
  have h := ex_lcT (K := K) (t := t) (te := te) (j := j) (fun _ => μ1) (fun i => filtmap p f (items.take i)) rfl hsrc (fun i d hd => turn_filt p f hd (ht d (List.mem_of_getElem? hd)) (he d (List.mem_of_getElem? hd))) (fun i hi => by have := filtmap_len p f (items.take i); rw [List.length_take] at this; omega)
  rw [List.take_length, filtmap_eq] at h
  exact h
theorem ex_filtL {t : TT} (p : D → Bool) (f : D → D) (hsrc : EX K tl ρ μ (.d (.list items)) μ1) (ht : ∀ d ∈ items, TX K t ((wipeX ρ [j]).set j (some (.d d))) μ1 (p d) μ1) (he : ∀ d ∈ items, p d = true → EX K te ((wipeX ρ [j]).set j (some (.d d))) μ1 (.d (f d)) μ1) (hz : items.length ≤ 50000 := by first | assumption | decide | omega) :
    EX K (tLc (iList K tl) (gName j) t te [j]) ρ μ (.d (.list ((items.filter p).map f))) μ1 := by
  have h := ex_lcL (K := K) (t := t) (te := te) (j := j) (fun _ => μ1) (fun i => filtmap p f (items.take i)) rfl hsrc (fun i d hd => turn_filt p f hd (ht d (List.mem_of_getElem? hd)) (he d (List.mem_of_getElem? hd))) (fun i hi => by have := filtmap_len p f (items.take i); rw [List.length_take] at this; omega)
  rw [List.take_length, filtmap_eq] at h
  exact h
end

/-! ### calls: the callee sees some of the caller's cells, by its own numbers -/
def posN (n : Nat) : List Nat → Option Nat
  | [] => none
  | x :: xs => if x = n then some 0 else (posN n xs).map (· + 1)
theorem posN_some {n j : Nat} : ∀ {ix : List Nat}, posN n ix = some j → ix[j]? = some n
  | [], h => by cases h
  | x :: xs, h => by
    unfold posN at h
    split at h
    · rename_i e
      cases h
      rw [e]; rfl
    · obtain ⟨k, h1, h2⟩ := Option.map_eq_some_iff.mp h
      subst h2
      have := posN_some h1
      simpa using this
theorem posN_none {n : Nat} : ∀ {ix : List Nat}, posN n ix = none → n ∉ ix
  | [], _ => by simp
  | x :: xs, h => by
    unfold posN at h
    split at h
    · cases h
    · rename_i e
      have h1 : posN n xs = none := by
        cases c : posN n xs with
        | none => rfl
        | some k => rw [c] at h; cases h
      have := posN_none h1
      intro hm
      rcases List.mem_cons.mp hm with z | z
      · exact e z.symm
      · exact this z
/-- the callee's number j in the caller's count (m cells) -/
def renN (ix : List Nat) (m j : Nat) : Nat := match ix[j]? with
  | some n => n
  | none => m + (j - ix.length)
def renS (ix : List Nat) (m : Nat) : SV → SV
  | .d x => .d x
  | .o j => .o (renN ix m j)
def renM (ix : List Nat) (m : Nat) : MO → MO
  | .lst ds => .lst ds
  | .ins C fs => .ins C (fs.map fun p => (p.1, renS ix m p.2))
  | .inv φ mono => .inv φ mono
/-- the caller's cells behind the call -/
def back (ix : List Nat) (μ μc : Mu) : Mu := ((List.range μ.length).map fun n => match posN n ix with
  | some j => renM ix μ.length (μc.getD j (.lst []))
  | none => μ.getD n (.lst [])) ++ (μc.drop ix.length).map (renM ix μ.length)
def SpM (K : PySem.W.Frag) (R : List SV → Mu → SV → Mu → Prop) : Sp := fun vs H Q _ => ∃ xs μ r μ' Hm α, Ex Hm H ∧ DxAll K Hm α vs xs ∧ Sto K H Hm α μ ∧ R xs μ r μ' ∧ ∀ v H2 Hm2 α2, Aft K α H Hm μ' α2 H2 Hm2 → Dx K Hm2 α2 v r → Q v H2
section
variable {K : PySem.W.Frag} {H Hm H2 Hm2 : Hp} {σ : L2.St} {ρ : Rx} {α αc αc2 : List Addr} {μ μ1 μc μc' : Mu} {ta : TA} {to : TE} {x r : SV} {xs : List SV} {ix : List Nat} {R : List SV → Mu → SV → Mu → Prop} {E : XK} {vs : List V}
theorem renD (h : ∀ (j : Nat) (a : Addr), αc[j]? = some a → α[renN ix n j]? = some a) {v : V} (hv : Dx K Hm αc v x) : Dx K Hm α v (renS ix n x) := by
  cases x with
  | d x => exact hv
  | o j =>
    obtain ⟨a, h1, h2⟩ := hv
    exact ⟨a, h j a h1, h2⟩
theorem renF (h : ∀ (j : Nat) (a : Addr), αc[j]? = some a → α[renN ix n j]? = some a) : ∀ {vs : List (Str × V)} {fs : List (Str × SV)}, FAll K Hm αc vs fs → FAll K Hm α vs (fs.map fun p => (p.1, renS ix n p.2))
  | _, _, .nil => .nil
  | _, _, .cons hd tl => .cons (renD h hd) (renF h tl)
theorem renO (h : ∀ (j : Nat) (a : Addr), αc[j]? = some a → α[renN ix n j]? = some a) {a : Addr} {m : MO} (hm : MOk K H Hm αc a m) : MOk K H Hm α a (renM ix n m) := by
  cases m with
  | lst ds => exact hm
  | inv φ mono => exact hm
  | ins C fs =>
    obtain ⟨dx, vs, h1, h2⟩ := hm
    exact ⟨dx, vs, h1, renF h h2⟩
/-- behind a callee -/
theorem aft_call (s : Ex Hm H) (S : Sto K H Hm α μ) (hix : ix.Nodup) (hlt : ∀ n ∈ ix, n < μ.length) (eα : αc = ix.map fun n => α.getD n 0) (A : Aft K αc H Hm μc' αc2 H2 Hm2) :
    ∃ α2, Aft K α H Hm (back ix μ μc') α2 H2 Hm2 ∧ ∀ (j : Nat) (a : Addr), αc2[j]? = some a → α2[renN ix μ.length j]? = some a := by
  have lc : αc.length = ix.length := by rw [eα, List.length_map]
  obtain ⟨nw, eN⟩ := A.pre
  have lenc : αc2.length = μc'.length := A.sto.len
  have atc : ∀ (j n : Nat), ix[j]? = some n → αc[j]? = α[n]? := fun j n h => by
    have hn := hlt n (List.mem_of_getElem? h)
    have hn' : n < α.length := by rw [S.len]; exact hn
    rw [eα, List.getElem?_map, h]
    show some (α.getD n 0) = α[n]?
    rw [List.getD_eq_getElem?_getD, List.getElem?_eq_getElem hn']; rfl
  have sub : ∀ a ∈ αc, a ∈ α := fun a ha => by
    rw [eα] at ha
    obtain ⟨n, hn, rfl⟩ := List.mem_map.mp ha
    have hn' : n < α.length := by rw [S.len]; exact hlt n hn
    rw [List.getD_eq_getElem?_getD, List.getElem?_eq_getElem hn']
    exact List.getElem_mem hn'
  have nd2 : (αc ++ nw).Nodup := by rw [eN]; exact A.sto.nd
  obtain ⟨_, ndw, disj⟩ := List.nodup_append.mp nd2
  have newN : ∀ a ∈ nw, H a = none := fun a ha => A.nw a (by rw [← eN]; exact List.mem_append_right _ ha) fun h => disj a h a ha rfl
  have ren : ∀ (j : Nat) (a : Addr), αc2[j]? = some a → (α ++ nw)[renN ix μ.length j]? = some a := fun j a h => by
    rw [← eN] at h
    unfold renN
    cases e : ix[j]? with
    | some n =>
      have hj : j < αc.length := by rw [lc]; exact (List.getElem?_eq_some_iff.mp e).1
      rw [List.getElem?_append_left hj, atc j n e] at h
      exact pre_get (List.prefix_append _ _) h
    | none =>
      have hj : ix.length ≤ j := List.getElem?_eq_none_iff.mp e
      rw [List.getElem?_append_right (by omega), lc] at h
      show (α ++ nw)[μ.length + (j - ix.length)]? = some a
      rw [List.getElem?_append_right (by rw [S.len]; omega), S.len, Nat.add_sub_cancel_left]
      exact h
  have lw : nw.length = μc'.length - ix.length := by
    have := congrArg List.length eN
    rw [List.length_append, lc, lenc] at this
    omega
  have lw2 : ix.length ≤ μc'.length := by
    have := congrArg List.length eN
    rw [List.length_append, lc, lenc] at this
    omega
  refine ⟨α ++ nw, ⟨List.prefix_append _ _, fun a ha n => ?_, ⟨fun a o n h => A.gr.ex a o (fun z => n (sub a z)) h, A.gr.th, A.gr.em, A.gr.sub, A.gr.own⟩, ⟨?_, ?_, fun a ha => ?_, fun n a m h1 h2 => ?_⟩⟩, ren⟩
  · rcases List.mem_append.mp ha with h | h
    · exact absurd h n
    · exact newN a h
  · unfold back
    rw [List.length_append, List.length_append, List.length_map, List.length_range, List.length_map, List.length_drop, S.len, lw]
  · rw [List.nodup_append]
    exact ⟨S.nd, ndw, fun x hx y hy e => by
      subst e
      obtain ⟨o, ho⟩ := S.has hx
      rw [newN x hy] at ho; cases ho⟩
  · rcases List.mem_append.mp ha with h | h
    · obtain ⟨o, ho⟩ := S.has h
      exact A.gr.own a o ho (S.hm a h)
    · exact A.sto.hm a (by rw [← eN]; exact List.mem_append_right _ h)
  · unfold back at h2
    by_cases hn : n < μ.length
    · rw [List.getElem?_append_left (by rw [S.len]; exact hn)] at h1
      rw [List.getElem?_append_left (by rw [List.length_map, List.length_range]; exact hn), List.getElem?_map, List.getElem?_range hn] at h2
      simp only [Option.map_some, Option.some.injEq] at h2
      cases e : posN n ix with
      | some j =>
        rw [e] at h2
        have hj := posN_some e
        have hjl := (List.getElem?_eq_some_iff.mp hj).1
        have hjm : j < μc'.length := by omega
        have ha : αc2[j]? = some a := by
          rw [← eN, List.getElem?_append_left (by rw [lc]; exact hjl), atc j n hj]; exact h1
        have hm : μc'[j]? = some (μc'.getD j (.lst [])) := by rw [List.getD_eq_getElem?_getD, List.getElem?_eq_getElem hjm]; rfl
        rw [← h2]
        exact renO ren (A.sto.ok j a _ ha hm)
      | none =>
        rw [e] at h2
        have hni := posN_none e
        have hm : μ[n]? = some (μ.getD n (.lst [])) := by rw [List.getD_eq_getElem?_getD, List.getElem?_eq_getElem hn]; rfl
        rw [← h2]
        refine (S.ok n a _ h1 hm).move (fun o ho => A.gr.ex a o (fun z => ?_) ho) A.gr.em (List.prefix_append _ _)
        rw [eα] at z
        obtain ⟨k, hk, e2⟩ := List.mem_map.mp z
        have hk' : k < α.length := by rw [S.len]; exact hlt k hk
        have hk2 : α[k]? = some a := by rw [← e2, List.getD_eq_getElem?_getD, List.getElem?_eq_getElem hk']; rfl
        exact hni (S.inj h1 hk2 ▸ hk)
    · have hn2 : μ.length ≤ n := Nat.le_of_not_lt hn
      rw [List.getElem?_append_right (by rw [S.len]; exact hn2), S.len] at h1
      rw [List.getElem?_append_right (by rw [List.length_map, List.length_range]; exact hn2), List.length_map, List.length_range, List.getElem?_map, List.getElem?_drop] at h2
      obtain ⟨m', h3, h4⟩ := Option.map_eq_some_iff.mp h2
      have ha : αc2[ix.length + (n - μ.length)]? = some a := by
        rw [← eN, List.getElem?_append_right (by rw [lc]; omega), lc, Nat.add_sub_cancel_left]; exact h1
      rw [← h4]
      exact renO ren (A.sto.ok _ a _ ha h3)
/-- the callee's view of the cells -/
def seen (ix : List Nat) (μ : Mu) (μc : Mu) : Prop := μc.length = ix.length ∧ ∀ (j : Nat) (m : MO), μc[j]? = some m → μ[renN ix μ.length j]? = some (renM ix μ.length m) ∧ cl ix.length μc = true
theorem seen_sto (S : Sto K H Hm α μ) (hix : ix.Nodup) (hlt : ∀ n ∈ ix, n < μ.length) (eα : αc = ix.map fun n => α.getD n 0) (h : seen ix μ μc) : Sto K H Hm αc μc := by
  have lc : αc.length = ix.length := by rw [eα, List.length_map]
  have atc : ∀ (j n : Nat), ix[j]? = some n → αc[j]? = α[n]? := fun j n h => by
    have hn := hlt n (List.mem_of_getElem? h)
    have hn' : n < α.length := by rw [S.len]; exact hn
    rw [eα, List.getElem?_map, h]
    show some (α.getD n 0) = α[n]?
    rw [List.getD_eq_getElem?_getD, List.getElem?_eq_getElem hn']; rfl
  have sub : ∀ a ∈ αc, a ∈ α := fun a ha => by
    rw [eα] at ha
    obtain ⟨n, hn, rfl⟩ := List.mem_map.mp ha
    have hn' : n < α.length := by rw [S.len]; exact hlt n hn
    rw [List.getD_eq_getElem?_getD, List.getElem?_eq_getElem hn']
    exact List.getElem_mem hn'
  refine ⟨lc.trans h.1.symm, ?_, fun a ha => S.hm a (sub a ha), fun j a m h1 h2 => ?_⟩
  · rw [eα]
    refine List.pairwise_map.mpr (hix.imp_of_mem fun {x y} hx hy hxy e => hxy ?_)
    have e1 : α[x]? = some (α.getD x 0) := by
      have hn' : x < α.length := by rw [S.len]; exact hlt x hx
      rw [List.getD_eq_getElem?_getD, List.getElem?_eq_getElem hn']; rfl
    have e2 : α[y]? = some (α.getD y 0) := by
      have hn' : y < α.length := by rw [S.len]; exact hlt y hy
      rw [List.getD_eq_getElem?_getD, List.getElem?_eq_getElem hn']; rfl
    exact S.inj e1 (e ▸ e2)
  · obtain ⟨k1, k2⟩ := h.2 j m h2
    have hj : j < ix.length := by rw [← lc]; exact (List.getElem?_eq_some_iff.mp h1).1
    obtain ⟨n, hn⟩ : ∃ n, ix[j]? = some n := ⟨_, List.getElem?_eq_getElem hj⟩
    have er : renN ix μ.length j = n := by unfold renN; rw [hn]
    rw [er] at k1
    have ha : α[n]? = some a := by rw [← atc j n hn]; exact h1
    have ok := S.ok n a _ ha k1
    cases m with
    | lst ds => exact ok
    | inv φ mono => exact ok
    | ins C fs =>
      obtain ⟨dx, vs, e1, e2⟩ := ok
      refine ⟨dx, vs, e1, ?_⟩
      have key : ∀ (vs : List (Str × V)) (fs : List (Str × SV)), (∀ f x, (f, x) ∈ fs → okV ix.length x) → FAll K Hm α vs (fs.map fun p => (p.1, renS ix μ.length p.2)) → FAll K Hm αc vs fs := by
        intro vs fs
        induction fs generalizing vs with
        | nil => intro _ h; cases h; exact .nil
        | cons p fs ih =>
          intro c h
          obtain ⟨f, x⟩ := p
          cases h with
          | cons h t =>
            refine .cons ?_ (ih _ (fun g y hy => c g y (List.mem_cons_of_mem _ hy)) t)
            cases x with
            | d x => exact h
            | o k =>
              have hk : k < ix.length := c f (.o k) List.mem_cons_self
              obtain ⟨b, h1, h2⟩ := h
              refine ⟨b, ?_, h2⟩
              have e3 : ix[k]? = some ix[k] := List.getElem?_eq_getElem hk
              rw [atc k _ e3]
              have er : renN ix μ.length k = ix[k] := by unfold renN; rw [e3]
              rw [er] at h1
              exact h1
      refine key vs fs (fun f x hx => ?_) e2
      cases x with
      | d x => exact True.intro
      | o k => exact cl_ok k2 j _ hj h2 C fs rfl f (.o k) hx k rfl
theorem seen_args {m : Nat} : ∀ {vs : List V} {xs : List SV}, DxAll K Hm α vs (xs.map (renS ix m)) → (∀ x ∈ xs, okV ix.length x) → DxAll K Hm (ix.map fun n => α.getD n 0) vs xs
  | _, [], h, _ => by cases h; exact .nil
  | _, x :: xs, h, c => by
    cases h with
    | cons h t =>
      refine .cons ?_ (seen_args t fun y hy => c y (List.mem_cons_of_mem _ hy))
      have ox := c x List.mem_cons_self
      cases x with
      | d x => exact h
      | o k =>
        have hk : k < ix.length := ox
        obtain ⟨b, h1, h2⟩ := h
        refine ⟨b, ?_, h2⟩
        have e3 : ix[k]? = some ix[k] := List.getElem?_eq_getElem hk
        have er : renN ix m k = ix[k] := by unfold renN; rw [e3]
        rw [er] at h1
        rw [List.getElem?_map, e3]
        show some (α.getD ix[k] 0) = some b
        rw [List.getD_eq_getElem?_getD, h1]; rfl
/-- f(..) over cells -/
theorem ex_callM (ix : List Nat) (ha : EXs K ta ρ μ (xs.map (renS ix μ1.length)) μ1) (hix : ix.Nodup) (hlt : ∀ n ∈ ix, n < μ1.length) (hs : seen ix μ1 μc) (hx : ∀ x ∈ xs, okV ix.length x) (hr : R xs μc r μc') : EX K (tCall (SpM K R) [] E ta) ρ μ (renS ix μ1.length r) (back ix μ1 μc') := fun σ H Hm α s l hsx S Q q =>
  ha σ H Hm α s l hsx S _ fun vs H1 Hm1 α1 A1 h1 => by
    show SpM K R (vs ++ []) H1 Q E
    rw [List.append_nil]
    refine ⟨xs, μc, r, μc', Hm1, ix.map fun n => α1.getD n 0, A1.gr.sub, seen_args h1 hx, seen_sto A1.sto hix hlt rfl hs, hr, fun v H2 Hm2 αc2 A hv => ?_⟩
    obtain ⟨α2, B, ren⟩ := aft_call A1.gr.sub A1.sto hix hlt rfl A
    exact q v H2 Hm2 α2 (A1.trans B) (renD ren hv)
/-- o.m(..) over cells -/
theorem ex_methM {C : Addr} {fs : List (Str × SV)} {m : Str} {n : Nat} {μ0 : Mu} (ix : List Nat) (ho : EX K to ρ μ0 (.o n) μ) (hm : μ[n]? = some (.ins C fs)) (hf : fs.lookup m = none) (hn : renS ix μ1.length x = .o n) (ha : EXs K ta ρ μ (xs.map (renS ix μ1.length)) μ1) (hix : ix.Nodup) (hlt : ∀ n ∈ ix, n < μ1.length) (hs : seen ix μ1 μc) (hx : ∀ y ∈ x :: xs, okV ix.length y) (hr : R (x :: xs) μc r μc') : EX K (tMeth C m (SpM K R) [] E to ta) ρ μ0 (renS ix μ1.length r) (back ix μ1 μc') := fun σ H Hm α s l hsx S Q q =>
  ho σ H Hm α s l hsx S _ fun vo H0 Hm0 α0 A0 h0 => by
    have h0' := h0
    obtain ⟨a, ha0, rfl⟩ := h0
    obtain ⟨dx, ws, e1, e2⟩ := A0.sto.ok n a _ ha0 hm
    refine ⟨a, dx, ws, rfl, e1, e2.lookN hf, ?_⟩
    refine ha σ H0 Hm0 α0 A0.gr.sub l (hsx.aft A0) A0.sto _ fun vs H1 Hm1 α1 A1 h1 => ?_
    show SpM K R (.ref a :: (vs ++ [])) H1 Q E
    rw [List.append_nil]
    have hself : Dx K Hm1 α1 (.ref a) (renS ix μ1.length x) := by rw [hn]; exact h0'.mono A1.gr.em A1.pre
    refine ⟨x :: xs, μc, r, μc', Hm1, ix.map fun n => α1.getD n 0, A1.gr.sub, seen_args (xs := x :: xs) (.cons hself h1) hx, seen_sto A1.sto hix hlt rfl hs, hr, fun v H2 Hm2 αc2 A hv => ?_⟩
    obtain ⟨α2, B, ren⟩ := aft_call A1.gr.sub A1.sto hix hlt rfl A
    exact q v H2 Hm2 α2 ((A0.trans A1).trans B) (renD ren hv)
/-- C(..): a new instance is the last cell; then __init__ -/
theorem ex_makeM {C : Addr} (ix : List Nat) (ha : EXs K ta ρ μ (xs.map (renS ix (μ1 ++ [MO.ins C []]).length)) μ1) (hn : renS ix (μ1 ++ [MO.ins C []]).length x = .o μ1.length) (hix : ix.Nodup) (hlt : ∀ n ∈ ix, n < (μ1 ++ [MO.ins C []]).length) (hs : seen ix (μ1 ++ [MO.ins C []]) μc) (hx : ∀ y ∈ x :: xs, okV ix.length y)
    (hr : R (x :: xs) μc (.d .none) μc') : EX K (tMake C (SpM K R) [] E ta) ρ μ (.o μ1.length) (back ix (μ1 ++ [MO.ins C []]) μc') := fun σ H Hm α s l hsx S Q q =>
  ha σ H Hm α s l hsx S _ fun vs H1 Hm1 α1 A1 h1 => fun a dx na ndx ne => by
    show SpM K R (.ref a :: (vs ++ [])) _ _ E
    rw [List.append_nil]
    have g1 : Gr H1 Hm1 (upd H1 dx (.own a)) Hm1 := Gr.priv A1.gr.sub ndx
    have na' : upd H1 dx (.own a) a = none := by rw [upd_ne (Ne.symm ne)]; exact na
    have A2 := A1.trans (Aft.ofGr A1.sto g1)
    have A3 := A2.trans (Aft.new A2.gr.sub A2.sto (p := a) (o := .ins C dx []) (m := .ins C []) na' ⟨dx, [], upd_same, .nil⟩)
    have hself : Dx K Hm1 (α1 ++ [a]) (.ref a) (renS ix (μ1 ++ [MO.ins C []]).length x) := by
      rw [hn]
      exact ⟨a, by rw [← A1.sto.len, List.getElem?_append_right (Nat.le_refl _), Nat.sub_self]; rfl, rfl⟩
    have h1' := DxAll.mono h1 (Ex.refl _) (List.prefix_append α1 [a])
    refine ⟨x :: xs, μc, .d .none, μc', Hm1, ix.map fun n => (α1 ++ [a]).getD n 0, A3.gr.sub, seen_args (xs := x :: xs) (.cons hself h1') hx, seen_sto A3.sto hix hlt rfl hs, hr, fun v H2 Hm2 αc2 A hv => ⟨dp_none hv, ?_⟩⟩
    obtain ⟨α2, B, ren⟩ := aft_call A3.gr.sub A3.sto hix hlt rfl A
    refine q _ H2 Hm2 α2 (A3.trans B) ⟨a, pre_get B.pre ?_, rfl⟩
    rw [← A1.sto.len, List.getElem?_append_right (Nat.le_refl _), Nat.sub_self]; rfl
end

/-! ### defs -/
def startX (N : List Str) (xs : List SV) : Rx := xs.map some ++ List.replicate (N.length - xs.length) none
theorem startX_len {N : List Str} {xs : List SV} (h : xs.length ≤ N.length) : (startX N xs).length = N.length := by
  unfold startX
  rw [List.length_append, List.length_map, List.length_replicate]; omega
theorem start_sx {K : PySem.W.Frag} {Hm : Hp} {α : List Addr} {N : List Str} : ∀ {vs : List V} {xs : List SV}, DxAll K Hm α vs xs → ∀ m, Sx K Hm α (vs.map some ++ List.replicate m none) (xs.map some ++ List.replicate m none)
  | _, _, .nil, m => fun i x hi => by
    have := List.mem_of_getElem? hi
    simp only [List.map_nil, List.nil_append, List.mem_replicate] at this
    cases this.2
  | _, _, .cons h t, m => fun i x hi => by
    cases i with
    | zero =>
      cases hi
      exact ⟨_, rfl, h⟩
    | succ i => exact start_sx (N := N) t m i x (by simpa using hi)
theorem start_of {K : PySem.W.Frag} {Hm : Hp} {α : List Addr} {N : List Str} {vs : List V} {xs : List SV} (h : DxAll K Hm α vs xs) : Sx K Hm α (L2.start N vs) (startX N xs) := by
  unfold startX L2.start
  rw [h.len]
  exact start_sx (N := N) h _
/-- a body hands back r, or runs to its end -/
def Ends2 (K : PySem.W.Frag) (t : TS) (ρ : Rx) (μ : Mu) (r : SV) (μ' : Mu) : Prop := XM K t ρ μ (.rt r μ') ∨ (r = .d .none ∧ ∃ ρ', XM K t ρ μ (.nx ρ' μ'))
section
variable {P : Program} {w : World} {K : PySem.W.Frag} {mg : Str → Option Value} {base : Heap} {x : Str} {st : Stmt} {f : Addr} {fd : FuncData} {N ps : List Str} {k : Nat}
theorem fn_ofM {q : Str} {R : List SV → Mu → SV → Mu → Prop} (F : Fun K x q st f fd) (S : FnScope N ps (defScope st)) (hN : ps.length ≤ N.length)
    (len : ∀ xs μ r μ', R xs μ r μ' → xs.length = ps.length)
    (hbody : ∀ (cdv : Value) (A : Around) (outer : List Env) (s : Shared) (H : Hp) (E : XK), Room k (A.deeper (envOfC q (defScope st) s.heap.objs.size f cdv)) →
      ∃ t, PSs (cxOf CX0 P w K mg base N q (defScope st) f cdv A outer s H E).nox (defBody st) t ∧ ∀ xs μ r μ', R xs μ r μ' → Ends2 K t (startX N xs) μ r μ') : FnOk P w K mg base CX0 (k + 1) f fd ps (SpM K R) := by
  refine F.ok S (fun vs H Q E h => ?_) (fun cdv A outer s H vs Q E hr h => ?_)
  · obtain ⟨xs, μ, r, μ', Hm, α, _, hd, _, hR, _⟩ := h
    rw [hd.len, len xs μ r μ' hR]
  · obtain ⟨t, h1, h2⟩ := hbody cdv A outer s H E hr
    refine ⟨t, h1, ?_⟩
    obtain ⟨xs, μ, r, μ', Hm, α, s1, hd, hS, hR, hq⟩ := h
    have hl := len xs μ r μ' hR
    have S0 : SM K α H Hm H Hm (L2.start N vs) (startX N xs) α μ := by
      refine ⟨GrS.refl s1, ?_, start_of hd, hS, fun a ha => .inl ha⟩
      rw [startX_len (by omega)]
      have := hd.len
      unfold L2.start
      rw [List.length_append, List.length_map, List.length_replicate]
      omega
    have aft : ∀ {H' Hm' α'}, α <+: α' → GrS α H Hm H' Hm' → Sto K H' Hm' α' μ' → (∀ a ∈ α', a ∈ α ∨ H a = none) → Aft K α H Hm μ' α' H' Hm' := fun p g S fr => ⟨p, fun a ha n => (fr a ha).resolve_left n, g, S⟩
    rcases h2 xs μ r μ' hR with h3 | ⟨rfl, ρ', h3⟩
    · exact h3 α H Hm _ (L2.start N vs) H Hm α S0 fun v H' Hm' α' p g S fr hv => hq v H' Hm' α' (aft p g S fr) hv
    · exact h3 α H Hm _ (L2.start N vs) H Hm α S0 fun σ' H' Hm' α' e p S => hq .non H' Hm' α' (aft p S.gr S.sto S.fr) Dp.non
theorem has_ofM {R : List SV → Mu → SV → Mu → Prop} (F : Fun K x x st f fd) (b : Binds K fd ps []) (hm : mg x = some (.ref f)) (S : FnScope N ps (defScope st)) (hN : ps.length ≤ N.length)
    (len : ∀ xs μ r μ', R xs μ r μ' → xs.length = ps.length)
    (hbody : ∀ (cdv : Value) (A : Around) (outer : List Env) (s : Shared) (H : Hp) (E : XK), Room k (A.deeper (envOfC x (defScope st) s.heap.objs.size f cdv)) →
      ∃ t, PSs (cxOf CX0 P w K mg base N x (defScope st) f cdv A outer s H E).nox (defBody st) t ∧ ∀ xs μ r μ', R xs μ r μ' → Ends2 K t (startX N xs) μ r μ') : Has P w K mg base (k + 1) x (SpM K R) :=
  ⟨f, fd, ps, fn_ofM F S hN len hbody, hm, F.kp, b⟩
/-- a promise without cells, of a body with cells of its own -/
theorem fn_ofP {q : Str} {R : List D → D → Prop} (F : Fun K x q st f fd) (S : FnScope N ps (defScope st)) (hN : ps.length ≤ N.length)
    (len : ∀ ds r, R ds r → ds.length = ps.length)
    (hbody : ∀ (cdv : Value) (A : Around) (outer : List Env) (s : Shared) (H : Hp) (E : XK), Room k (A.deeper (envOfC q (defScope st) s.heap.objs.size f cdv)) →
      ∃ t, PSs (cxOf CX0 P w K mg base N q (defScope st) f cdv A outer s H E).nox (defBody st) t ∧ ∀ ds r, R ds r → ∃ μ', XM K t (startX N (ds.map .d)) [] (.rt (.d r) μ')) : FnOk P w K mg base CX0 (k + 1) f fd ps (SpR K R) := by
  refine F.ok S (fun vs H Q E h => ?_) (fun cdv A outer s H vs Q E hr h => ?_)
  · obtain ⟨ds, r, Hm, _, hd, hR, _⟩ := h
    rw [hd.len, len ds r hR]
  · obtain ⟨t, h1, h2⟩ := hbody cdv A outer s H E hr
    refine ⟨t, h1, ?_⟩
    obtain ⟨ds, r, Hm, s1, hd, hR, hq⟩ := h
    have hl := len ds r hR
    obtain ⟨μ', h3⟩ := h2 ds r hR
    have S0 : SM K [] H Hm H Hm (L2.start N vs) (startX N (ds.map .d)) [] [] := by
      refine ⟨GrS.refl s1, ?_, start_of (DxAll.of hd), Sto.empty, fun a ha => by cases ha⟩
      rw [startX_len (by rw [List.length_map]; omega)]
      have := hd.len
      unfold L2.start
      rw [List.length_append, List.length_map, List.length_replicate]
      omega
    exact h3 [] H Hm _ (L2.start N vs) H Hm [] S0 fun v H' Hm' α' p g S fr hv => hq v H' Hm' ⟨fun a o h => g.ex a o (by simp) h, g.em, g.sub, g.own⟩ hv
theorem has_ofP {R : List D → D → Prop} (F : Fun K x x st f fd) (b : Binds K fd ps []) (hm : mg x = some (.ref f)) (S : FnScope N ps (defScope st)) (hN : ps.length ≤ N.length)
    (len : ∀ ds r, R ds r → ds.length = ps.length)
    (hbody : ∀ (cdv : Value) (A : Around) (outer : List Env) (s : Shared) (H : Hp) (E : XK), Room k (A.deeper (envOfC x (defScope st) s.heap.objs.size f cdv)) →
      ∃ t, PSs (cxOf CX0 P w K mg base N x (defScope st) f cdv A outer s H E).nox (defBody st) t ∧ ∀ ds r, R ds r → ∃ μ', XM K t (startX N (ds.map .d)) [] (.rt (.d r) μ')) : Has P w K mg base (k + 1) x (SpR K R) :=
  ⟨f, fd, ps, fn_ofP F S hN len hbody, hm, F.kp, b⟩
end
/-- a method -/
structure HasM (P : Program) (w : World) (K : PySem.W.Frag) (mg : Str → Option Value) (base : Heap) (k : Nat) (C : Addr) (m : Str) (sp : Sp) : Prop where
  ex : ∃ f fd ps, FnOk P w K mg base CX0 k f fd ps sp ∧ Meth K C m f ∧ Binds K fd ps []
theorem HasM.mono {P : Program} {w : World} {K : PySem.W.Frag} {mg : Str → Option Value} {base : Heap} {j k : Nat} {C : Addr} {m : Str} {sp : Sp} (h : HasM P w K mg base j C m sp) (hk : j ≤ k) : HasM P w K mg base k C m sp :=
  let ⟨f, fd, ps, F, a, b⟩ := h.ex
  ⟨f, fd, ps, F.mono hk, a, b⟩
section
variable {X : Cx} {k j : Nat} {C : Addr} {m : Str} {sp : Sp} {e o : Expr} {es : List Expr} {p pos apos : Pos} {t : TA} {to : TE}
theorem pe_hm {pl : Sem Bool} (c : HasM X.prog X.w X.K X.mg X.base k C m sp) (cl : Cls X.K C) (hr : Room j X.A) (hk : k ≤ j) (ho : PE X o to) (ha : PA X (e :: es) t)
    (hst : starEach (e :: es) X.env = (false, eval e X.env) :: starEach es X.env := by rfl) (hpl : (backTo pos (starEach es X.env)).any (·.1) = false := by rfl)
    (ht : eval (.Call (.Attribute o m apos) (e :: es) [] pos) X.env = (do
      let ov ← eval o X.env
      standAt apos.atName
      let (f, first) ← holding [ov] (getMethod ov m pl)
      callWith pos f first (backTo pos (starEach (e :: es) X.env)) (backToKw pos (keywordEach [] X.env))) := by rfl) :
    PE X (.Call (.Attribute o m apos) (e :: es) [] pos) (tMeth C m sp [] E0 to t) := by
  obtain ⟨f, fd, ps, F, hm, b⟩ := c.ex
  exact pe_meth (pl := pl) ho cl hm F (hr.mono hk) b .nil pass0 ha (hst := hst) (hpl := hpl) (ht := ht)
theorem pe_hm0 {pl : Sem Bool} (c : HasM X.prog X.w X.K X.mg X.base k C m sp) (cl : Cls X.K C) (hr : Room j X.A) (hk : k ≤ j) (ho : PE X o to)
    (ht : eval (.Call (.Attribute o m apos) [] [] pos) X.env = (do
      let ov ← eval o X.env
      standAt apos.atName
      let (f, first) ← holding [ov] (getMethod ov m pl)
      callWith pos f first (backTo pos (starEach [] X.env)) (backToKw pos (keywordEach [] X.env))) := by rfl) :
    PE X (.Call (.Attribute o m apos) [] [] pos) (tMeth C m sp [] E0 to tNil) := by
  obtain ⟨f, fd, ps, F, hm, b⟩ := c.ex
  exact pe_meth0 (pl := pl) ho cl hm F (hr.mono hk) b .nil pass0 (ht := ht)
end
end LM

set_option Elab.async false
set_option linter.all false
set_option maxRecDepth 100000
set_option maxHeartbeats 1000000
/-! LmE: for i, x in enumerate(t), t a tuple. -/
namespace LM
open PySem PySem.Spec PyProof.Rows L2 Evl
abbrev tupIt (l : Addr) : Obj := { cls := .type "tuple_iterator", data := .fields #[.ref l, .int 0 0] }
abbrev enumOf (a : Addr) : Obj := { cls := .type "enumerate", data := .fields #[.none, .bool false, .ref a, rawInt 0, .none, .none] }
theorem enum_tup_new (l : Addr) (its : Array Value) :
    Meets (Builtin.«enumerate.__new__» ⟨[.type "enumerate", .ref l], []⟩) (fun _ R s => s.heap.IsTuple l its ∧ R (.ok (.ret (.ref (s.heap.push (tupIt l)).objs.size))) { s with heap := (s.heap.push (tupIt l)).push (enumOf s.heap.objs.size) }) :=
  .of_wp fun prog w A R s k => by
    obtain ⟨hp, g, dr, tk, os⟩ := s
    obtain ⟨ht, k⟩ := k
    have f1 := sub_enumerate
    have f2 : Heap.IsTuple (Shared.heap ⟨hp, g, dr, tk, os⟩) l its := ht
    wp_walk using (wpAny_pyIter_tuple f2)
    refine wpAny_stack_any fun z => wpAny_pure ?_
    split
    · rename_i c _ _ _ _ _
      cases (c == Value.type "enumerate")
      · wp_walk using (wpAny_pyIter_tuple f2)
        exact ⟨_, rfl, k⟩
      · wp_walk using (wpAny_pyIter_tuple f2)
        exact ⟨_, rfl, k⟩
    · wp_walk using (wpAny_pyIter_tuple f2)
      exact ⟨_, rfl, k⟩
section
variable {prog : Program} {w : World} {A : Around} {E : Value → Shared → Prop} {s : Shared}
theorem call_enum_tup {l : Addr} {its : Array Value} {Q : Value → Shared → Prop} (ht : s.heap.IsTuple l its)
    (q : ∀ h2, IsEnum h2 (s.heap.objs.size + 1) s.heap.objs.size 0 .none → h2.IsTupleIter s.heap.objs.size l 0 → h2.objs.size = s.heap.objs.size + 2 → (∀ b o, s.heap.get? b = some o → h2.get? b = some o) → Q (.ref (s.heap.objs.size + 1)) { s with heap := h2 }) :
    wpAny (model prog w) A (call (.type "enumerate") [.ref l]) Q E s := by
  refine callType_new F.called_enumerate (by decide) (F.typeCall_enumerate_1 _) (F.newCall_enumerate_1 _) (fun ob => F.args_object_init_2 ob _) F.entry_enumerate_new (enum_tup_new l its) ⟨ht, ?_⟩
  have z1 : (s.heap.push (tupIt l)).objs.size = s.heap.objs.size + 1 := Heap.size_push ..
  show _ ∧ _
  rw [z1]
  have z2 : IsEnum ((s.heap.push (tupIt l)).push (enumOf s.heap.objs.size)) (s.heap.objs.size + 1) s.heap.objs.size 0 .none := by
    have := Heap.get?_push_size (s.heap.push (tupIt l)) (o := enumOf s.heap.objs.size) rfl
    rw [z1] at this
    exact this
  refine ⟨⟨_, z2, rfl⟩, q _ z2 ⟨_, Heap.get?_push_of_some _ (Heap.get?_push_size _ rfl), rfl, rfl⟩ ?_ fun b o e => ?_⟩
  · rw [Heap.size_push, z1]
  · exact Heap.get?_push_of_some _ (Heap.get?_push_of_some _ e)
end
/-- the tuple at a, its items in new pairs with their places -/
def IteT (K : PySem.W.Frag) (a : Addr) : It :=
  ⟨fun i H => ∃ (xs : List V) (x : V), SqT K H a xs ∧ xs[i]? = some x, fun i H v H2 => ∃ T x, v = .ref T ∧ H T = none ∧ H2 = upd H T (.tup [.int (i : Nat), x]) ∧ ∀ xs, SqT K H a xs → xs[i]? = some x, fun i H => ∃ xs : List V, SqT K H a xs ∧ xs.length ≤ i⟩
theorem turn_enumT {P : Program} {w : World} {K : PySem.W.Frag} {elts : List Expr} {kk : Nat} {tpos : Pos} (a e it : Addr) :
    Turn P w K (.Tuple elts kk tpos) (IteT K a) [e, it] e (fun i h => (∃ u, IsEnum h e it ((i : Nat) : Int) u) ∧ h.IsTupleIter it a i ∧ e ≠ it) where
  mem := by simp
  obj := fun i h st b hb => by
    obtain ⟨⟨u, k1⟩, ⟨o, k2, k3, k4⟩, _⟩ := st
    rcases List.mem_cons.mp hb with z | z
    · rw [z]; exact ⟨_, k1, fun v q => nomatch q⟩
    · rw [List.mem_singleton.mp z]; exact ⟨o, k2, fun v q => by rw [k4] at q; cases q⟩
  keep := fun i h h2 st k => by
    obtain ⟨⟨u, k1⟩, k2, ne⟩ := st
    exact ⟨⟨u, k e (by simp) _ k1⟩, k2.at fun o q => k it (by simp) o q, ne⟩
  item := by
    intro X hP hw hK hc i pins s σ H E I hf st hg
    subst hP hw hK
    obtain ⟨⟨old, he⟩, hit, hne⟩ := st
    obtain ⟨xs, x, hq, hx⟩ := hg
    obtain ⟨its, rv, pt, hz⟩ := I.tuple hq
    have ht : s.heap.IsTuple a its.toArray := pt
    obtain ⟨u, hu, ru⟩ := rv.get hx
    have el : e < s.heap.objs.size := Heap.lt_size he
    have il : it < s.heap.objs.size := by obtain ⟨_, q, _⟩ := hit; exact Heap.lt_size q
    have al : a ≠ it := by
      intro z
      subst z
      obtain ⟨o1, q1, q2, _⟩ := hit
      obtain ⟨o2, q3, q4, _⟩ := ht
      rw [q1] at q3
      cases q3
      rw [q2] at q4
      exact absurd q4 (by decide)
    have ae : e ≠ a := by
      intro z
      subst z
      obtain ⟨o2, q3, q4, _⟩ := ht
      rw [he] at q3
      cases q3
      exact absurd (show Value.type "enumerate" = Value.type "tuple" from q4) (by decide)
    refine wpAny_pyNext_enum_itemD (Draws.tuple (prog := X.prog) (w := X.w) (A := X.A.in1) (show X.A.in1.handled = none from I.ok.hd hc) it a al its.toArray) he ⟨hit, ht⟩ (by have := rv.length; have := (List.getElem?_eq_some_iff.mp hx).1; rw [List.size_toArray]; omega) hne (by simp [hne, ae]) fun y h2 tk hy ho st2 hT hsz hk => ?_
    have ey : y = u := by
      have e1 : its[i]? = some y := by simpa using hy
      rw [hu] at e1
      exact (Option.some.inj e1).symm
    subst ey
    refine ⟨_, rfl, wpAny_letOwnedTupleGo_enum (s := { s with heap := h2, toks := tk + 1 }) ho fun h3 he3 sb => ?_⟩
    have hT3 : h3.get? s.heap.objs.size = some { cls := .type "tuple", data := .seq #[.int i tk, y] } := (sb.2 _ (Nat.ne_of_gt el)).trans hT
    have nw : ObjOk X.prog X.w (upd H s.heap.objs.size (.tup [.int (i : Nat), x])) h3 s.heap.objs.size (.tup [.int (i : Nat), x]) :=
      ⟨by show 2 ≤ sizeLine; decide, [.int i tk, y], .cons ⟨_, rfl⟩ (.cons ru .nil), ⟨_, hT3, rfl, _, rfl⟩⟩
    have I2 : Inv X pins σ (upd H s.heap.objs.size (.tup [.int (i : Nat), x])) { s with heap := h3, toks := tk + 1 } :=
      I.turnedNew (ch := [e, it]) (fun b ob nb q => (sb.2 b (fun z => nb (by simp [z]))).trans (hk b ob (fun z => nb (by simp [z])) (fun z => nb (by simp [z])) q)) hf (Nat.le_refl _) nw
    refine ⟨.ref s.heap.objs.size, _, I2, rfl, ⟨_, x, rfl, I.hok.fresh (Nat.le_refl _), rfl, fun ys hy => by rw [I.tuple_inj hy hq]; exact hx⟩, ⟨⟨y, ?_⟩, st2.1.at fun o q => (sb.2 it (Ne.symm hne)).trans q, hne⟩, fun b hb => ?_⟩
    · rw [show ((i + 1 : Nat) : Int) = (i : Int) + 1 by omega]
      exact he3
    · have bl : b < s.heap.objs.size := by
        rcases List.mem_cons.mp hb with z | z
        · rw [z]; exact el
        · rw [List.mem_singleton.mp z]; exact il
      rw [upd_ne (Nat.ne_of_lt bl)]
      exact (hf b hb).1
  done := by
    intro X hP hw hK hc i pins s σ H E I hf st hg
    subst hP hw hK
    obtain ⟨⟨old, he⟩, hit, hne⟩ := st
    obtain ⟨xs, hq, hx⟩ := hg
    obtain ⟨its, rv, pt, hz⟩ := I.tuple hq
    have ht : s.heap.IsTuple a its.toArray := pt
    obtain ⟨f0, f1, f2, f3, f4, f5⟩ := hf it (by simp)
    have al : a ≠ it := by
      intro z
      subst z
      obtain ⟨o1, q1, q2, _⟩ := hit
      obtain ⟨o2, q3, q4, _⟩ := ht
      rw [q1] at q3
      cases q3
      rw [q2] at q4
      exact absurd q4 (by decide)
    have hl := rv.length
    unfold pyNext
    refine wpAny_bind (wpAny_attempt (wpAny_callSpecial?_slot (name := Str.ofString "__next__") ⟨_, he, rfl⟩ F.slot_enumerate_next (wpAny_call_entry F.slot_enumerate_next ⟨_, he, rfl⟩ F.entry_enumerate_next ?_ (F.args_enumerate_next_1 _))))
    show wpAny _ _ (field (.ref e) 2 >>= _) _ _ s
    refine wpAny_bind (wpAny_field he rfl (x := .ref it) rfl (wpAny_bind ?_))
    refine wpAny_nextOf_tuple_end (I.ok.hd hc) hit ht (by simp; omega) fun h2 x eb ⟨o, ho, hcl⟩ => ?_
    refine wpAny_bind (wpAny_isInstance (T := "StopIteration") (b := true) ⟨o, ho, hcl⟩ isSubtype_stop (wpAny_pure ?_))
    exact ⟨rfl, I.turned (t' := s.toks) (fun b ob nb q => eb b ob nb q) f0 f1 f3 f4 f5⟩
  self := fun A i s Q E st q => by
    obtain ⟨⟨u, k1⟩, _⟩ := st
    exact wpAny_pyIter_enum k1 q
def iEnumT (K : PySem.W.Frag) (ta : TA) : TI := fun σ H R => ta σ H fun vs H1 => ∃ a xs, vs = [.ref a] ∧ SqT K H1 a xs ∧ R (IteT K a) H1
theorem pi_enumT (K : PySem.W.Frag) {X : Cx} (hK : X.K = K) {e : Expr} {ta : TA} {p pos tpos : Pos} {elts : List Expr} {kk : Nat} (hg : Gl X "enumerate") (hm : X.mg "enumerate" = none) (ha : PA X [e] ta) (hs : starEach [e] X.env = [(false, eval e X.env)] := by rfl) :
    PI X (.Tuple elts kk tpos) (.Call (.Name "enumerate" p) [e] [] pos) (iEnumT K ta) := by
  subst hK
  refine ⟨fun pins s σ H R I h => ?_⟩
  refine Call_ (ld_blt I hg hm boot_enumerate (PyProof.Rows.callWith_type1 (thn (ha.run pos pins s σ H _ I h) fun us s1 hk => ?_) hs rfl))
  obtain ⟨vs, H1, I1, r1, a, xs, ev, hq, q⟩ := hk
  subst ev
  cases r1 with
  | cons r rr =>
    cases rr
    cases r
    obtain ⟨its, rv, pt, hz⟩ := I1.tuple hq
    refine call_enum_tup (its := its.toArray) pt fun h2 k1 k2 k3 k4 => wpAny_pyIter_enum k1 ?_
    have I2 : Inv X pins σ H1 { s1 with heap := h2 } := I1.kept (t' := s1.toks) k4
    refine ⟨s1.heap.objs.size + 1, [s1.heap.objs.size + 1, s1.heap.objs.size], _, _, H1, rfl, I2, turn_enumT a _ s1.heap.objs.size, ⟨⟨.none, k1⟩, k2, Nat.succ_ne_self _⟩, fun b hb => ?_, q⟩
    have le : s1.heap.objs.size ≤ b := by
      rcases List.mem_cons.mp hb with z | z
      · rw [z]; exact Nat.le_add_right _ _
      · rw [List.mem_singleton.mp z]; exact Nat.le_refl _
    exact I1.fpOk le (I1.hok.fresh le)

/-! ### loops over enumerate -/
abbrev gPr (K : PySem.W.Frag) (i j : Nat) : TG := gTup K 2 (gCons (gName i) (gCons (gName j) gNil))
def prS (ρ : Rx) (i j k : Nat) (d : D) : Rx := (ρ.set i (some (.d (.int (k : Int))))).set j (some (.d d))
def GoE (K : PySem.W.Frag) (tu : TS) (i j : Nat) (items : List D) (ρs : Nat → Rx) (μs : Nat → Mu) (o : OutX) : Prop :=
  ∃ m, m ≤ items.length ∧ (∀ k d, k < m → items[k]? = some d → XM K tu (prS (ρs k) i j k d) (μs k) (.nx (ρs (k + 1)) (μs (k + 1)))) ∧
    ((m = items.length ∧ o = .nx (ρs m) (μs m)) ∨ ∃ d, items[m]? = some d ∧ ((∃ r μ', o = .rt r μ' ∧ XM K tu (prS (ρs m) i j m d) (μs m) (.rt r μ')) ∨ ∃ ρ' μ', o = .nx ρ' μ' ∧ XM K tu (prS (ρs m) i j m d) (μs m) (.bk ρ' μ')))
section
variable {K : PySem.W.Frag} {L0 : List Addr} {H0 Hm0 H Hm H2 Hm2 Hb Hb2 : Hp} {σ : L2.St} {ρ ρ1 ρ2 : Rx} {α α2 αb : List Addr} {μ μ1 μ2 μ3 : Mu} {E : Ends} {o : OutX} {tu : TS} {ta : TA} {d : D} {items : List D} {i j k n m : Nat} {ρs : Nat → Rx} {μs : Nat → Mu} {v : V} {T : Addr}
theorem goe_turn
    (h1 : ∀ k d, k < m → items[k]? = some d → XM K tu (prS (ρs k) i j k d) (μs k) (.nx (ρs (k + 1)) (μs (k + 1))))
    (h2 : (m = items.length ∧ o = .nx (ρs m) (μs m)) ∨ ∃ d, items[m]? = some d ∧ ((∃ r μ', o = .rt r μ' ∧ XM K tu (prS (ρs m) i j m d) (μs m) (.rt r μ')) ∨ ∃ ρ' μ', o = .nx ρ' μ' ∧ XM K tu (prS (ρs m) i j m d) (μs m) (.bk ρ' μ')))
    (f : FnX K L0 H0 Hm0 Hb αb E o) (hi : items[k]? = some d) (hv : Dp K Hb v d) (c : GoXI K L0 H0 Hm0 Hb αb ρs μs m k σ H) (hT : H T = none) :
    gPr K i j (.ref T) σ (upd H T (.tup [.int (k : Nat), v])) fun σ2 H2 => tu { E with nx := GoXI K L0 H0 Hm0 Hb αb ρs μs m (k + 1), ct := GoXI K L0 H0 Hm0 Hb αb ρs μs m (k + 1), bk := E.nx } σ2 H2 := by
  obtain ⟨hm, Hm, α, em, pa, S⟩ := c
  have A : Aft K α H Hm (μs k) α (upd H T (.tup [.int (k : Nat), v])) Hm := Aft.ofGr S.sto (Gr.priv S.gr.sub hT)
  refine ⟨T, [.int (k : Nat), v], rfl, .inl (.inl upd_same), rfl, _, [v], rfl, v, [], rfl, rfl, ?_⟩
  have S' := (((S.aft A).set (i := i) (x := .d (.int (k : Int))) (Dp.int (k : Int))).set (i := j) (x := .d d) (Dp.mono hv em))
  by_cases hlt : k < m
  · exact h1 k d hlt hi L0 H0 Hm0 _ _ _ Hm α S' fun σ' H' Hm' α' x p S2 => ⟨hlt, Hm', α', em.trans x, pa.trans p, S2⟩
  · have e : k = m := by omega
    subst e
    rcases h2 with ⟨z, _⟩ | ⟨d2, hd2, h3⟩
    · rw [List.getElem?_eq_none (by omega)] at hi; cases hi
    · rw [hi] at hd2
      cases hd2
      rcases h3 with ⟨r, μ', rfl, hx⟩ | ⟨ρ', μ', rfl, hx⟩
      · exact hx L0 H0 Hm0 _ _ _ Hm α S' fun v H' Hm' α' p g S2 fr hv' => f v H' Hm' α' (pa.trans p) g S2 fr hv'
      · exact hx L0 H0 Hm0 _ _ _ Hm α S' fun σ' H' Hm' α' x p S2 => f σ' H' Hm' α' (em.trans x) (pa.trans p) S2
theorem goe_end (hm : m ≤ items.length)
    (h2 : (m = items.length ∧ o = .nx (ρs m) (μs m)) ∨ ∃ d, items[m]? = some d ∧ ((∃ r μ', o = .rt r μ' ∧ XM K tu (prS (ρs m) i j m d) (μs m) (.rt r μ')) ∨ ∃ ρ' μ', o = .nx ρ' μ' ∧ XM K tu (prS (ρs m) i j m d) (μs m) (.bk ρ' μ')))
    (f : FnX K L0 H0 Hm0 Hb αb E o) (c : GoXI K L0 H0 Hm0 Hb αb ρs μs m items.length σ H) : E.nx σ H := by
  obtain ⟨hle, Hm, α, em, pa, S⟩ := c
  rcases h2 with ⟨z, rfl⟩ | ⟨d2, hd2, _⟩
  · rw [← z] at S
    exact f σ H Hm α em pa S
  · rw [List.getElem?_eq_none (by omega)] at hd2; cases hd2
theorem xm_forET (ρs : Nat → Rx) (μs : Nat → Mu) (hsrc : EXs K ta ρ μ [.d (.tuple items)] μ1) (h0 : ρs 0 = ρ) (h0' : μs 0 = μ1) (g : GoE K tu i j items ρs μs o) : XM K (tFor (iEnumT K ta) (gPr K i j) tu) ρ μ o := fun L0 H0 Hm0 E σ H Hm α S f => by
  obtain ⟨m, hm, h1, h2⟩ := g
  refine hsrc σ H Hm α S.gr.sub S.len S.sd S.sto _ fun vs H1 Hm1 α1 A hvs => ?_
  obtain ⟨v, rfl, hv⟩ := dps1 (DxAll.data (ds := [.tuple items]) hvs)
  have S1 := S.aft A
  have f1 := f.mono A.gr.em A.pre
  obtain ⟨a, xs, rfl, hx, ha⟩ := dp_tup hv
  have hl := ha.len
  refine ⟨a, xs, rfl, ex_t S1.gr.sub hx, ?_⟩
  refine ⟨fun k q σ H => k + q = xs.length ∧ GoXI K L0 H0 Hm0 Hm1 α1 ρs μs m k σ H, ⟨xs.length, Nat.zero_add _, Nat.zero_le _, Hm1, α1, Ex.refl _, List.prefix_refl _, by rw [h0, h0']; exact S1⟩, ?_⟩
  rintro k q σ' H' ⟨hq, c⟩
  have hst : SqT K H' a xs := by
    obtain ⟨_, Hm', α', x, _, S'⟩ := id c
    exact ex_t S'.gr.sub (ex_t x hx)
  by_cases hk : k < xs.length
  · obtain ⟨y, hy⟩ : ∃ y, xs[k]? = some y := ⟨_, List.getElem?_eq_getElem hk⟩
    refine .inr ⟨⟨xs, y, hst, hy⟩, GoXI K L0 H0 Hm0 Hm1 α1 ρs μs m (k + 1), fun σ2 H2 c2 => ⟨q - 1, by omega, by omega, c2⟩, fun v H2 yl => ?_⟩
    obtain ⟨T, z, rfl, hT, rfl, hz⟩ := yl
    have ez := hz xs hst
    obtain ⟨d, hd, hxd⟩ := ha.get' ez
    exact goe_turn h1 h2 f1 hd hxd c hT
  · have e : k = xs.length := by omega
    subst e
    refine .inl ⟨⟨xs, hst, Nat.le_refl _⟩, ?_⟩
    rw [hl] at c
    exact goe_end hm h2 f1 c
theorem xm_forEL (ρs : Nat → Rx) (μs : Nat → Mu) (hsrc : EXs K ta ρ μ [.d (.list items)] μ1) (h0 : ρs 0 = ρ) (h0' : μs 0 = μ1) (g : GoE K tu i j items ρs μs o) : XM K (tFor (iEnum K ta) (gPr K i j) tu) ρ μ o := fun L0 H0 Hm0 E σ H Hm α S f => by
  obtain ⟨m, hm, h1, h2⟩ := g
  refine hsrc σ H Hm α S.gr.sub S.len S.sd S.sto _ fun vs H1 Hm1 α1 A hvs => ?_
  obtain ⟨v, rfl, hv⟩ := dps1 (DxAll.data (ds := [.list items]) hvs)
  have S1 := S.aft A
  have f1 := f.mono A.gr.em A.pre
  obtain ⟨a, xs, rfl, hx, ha⟩ := dp_lst hv
  have hl := ha.len
  refine ⟨a, xs, rfl, ex_l S1.gr.sub hx, ?_⟩
  refine ⟨fun k q σ H => k + q = xs.length ∧ GoXI K L0 H0 Hm0 Hm1 α1 ρs μs m k σ H, ⟨xs.length, Nat.zero_add _, Nat.zero_le _, Hm1, α1, Ex.refl _, List.prefix_refl _, by rw [h0, h0']; exact S1⟩, ?_⟩
  rintro k q σ' H' ⟨hq, c⟩
  have hst : SqL K H' a xs := by
    obtain ⟨_, Hm', α', x, _, S'⟩ := id c
    exact ex_l S'.gr.sub (ex_l x hx)
  by_cases hk : k < xs.length
  · obtain ⟨y, hy⟩ : ∃ y, xs[k]? = some y := ⟨_, List.getElem?_eq_getElem hk⟩
    refine .inr ⟨⟨xs, y, hst, hy⟩, GoXI K L0 H0 Hm0 Hm1 α1 ρs μs m (k + 1), fun σ2 H2 c2 => ⟨q - 1, by omega, by omega, c2⟩, fun v H2 yl => ?_⟩
    obtain ⟨T, z, rfl, hT, rfl, hz⟩ := yl
    have ez := hz xs hst
    obtain ⟨d, hd, hxd⟩ := ha.get' ez
    exact goe_turn h1 h2 f1 hd hxd c hT
  · have e : k = xs.length := by omega
    subst e
    refine .inl ⟨⟨xs, hst, Nat.le_refl _⟩, ?_⟩
    rw [hl] at c
    exact goe_end hm h2 f1 c
end
end LM

set_option Elab.async false
set_option linter.all false
set_option maxRecDepth 100000
set_option maxHeartbeats 1000000
/-! LmF: rules of instances with K named; xs[::-1] of a list; new instances. -/
namespace LM
open PySem PySem.Spec PyProof.Rows L2 Evl
section
variable (K : PySem.W.Frag) {X : Cx} (h : X.K = K)
include h
theorem pe_fldK {e : Expr} {f : Str} {pos : Pos} {ta : TE} (he : PE X e ta) (hb : attributeBase e f X.env (eval e X.env) = eval e X.env) : PE X (.Attribute e f pos) (tFld K ta f) := h ▸ pe_fld he hb
theorem ps_fldK {o value : Expr} {f : Str} {pos pos' : Pos} {ta tv : TE} (ha : PE X o ta) (hv : PE X value tv) (hs : swapsWith value (some (.Attribute o f pos')) pos.line X.env = pure false) : PS X (.Assign [.Attribute o f pos'] value pos) (sFld K ta tv f) := h ▸ ps_fld ha hv hs
theorem pe_revLK {e : Expr} {te : TE} {k : Nat} {p1 p2 p3 pos : Pos} (he : PE X e te) : PE X (.Subscript e (.Slice none none (some (.UnaryOp .USub (.Constant (.int 1) k p1) p2)) p3) pos) (tRevL K te) := h ▸ pe_revL he
theorem pi_enumK {e : Expr} {ta : TA} {p pos tpos : Pos} {elts : List Expr} {kk : Nat} (hg : Gl X "enumerate") (hm : X.mg "enumerate" = none) (ha : PA X [e] ta) (hs : starEach [e] X.env = [(false, eval e X.env)] := by rfl) :
    PI X (.Tuple elts kk tpos) (.Call (.Name "enumerate" p) [e] [] pos) (iEnum K ta) := h ▸ pi_enum hg hm ha hs
end
section
variable {K : PySem.W.Frag} {ρ : Rho} {te : TE} {ds : List D}
theorem el_revL (h : ED K te ρ (.list ds)) : EL K (tRevL K te) ρ ds.reverse := fun σ H Hm s l hs Q q =>
  h σ H Hm s l hs _ fun v H1 Hm1 g1 d1 => by
    obtain ⟨a, xs, rfl, hx, ha⟩ := dp_lst d1
    exact ⟨a, xs, rfl, ex_l g1.sub hx, fun p hp => q p _ _ Hm1 (g1.trans (Gr.priv g1.sub hp)) (fresh_back g1.ex hp) (fresh_back g1.sub hp) upd_same (dps_rev ha)⟩
end
/-- a class whose instances are made by an __init__ of promise sp -/
structure HasMk (P : Program) (w : World) (K : PySem.W.Frag) (mg : Str → Option Value) (base : Heap) (k : Nat) (x : Str) (C : Addr) (sp : Sp) : Prop where
  ex : ∃ f fd ps, FnOk P w K mg base CX0 k f fd ps sp ∧ Mk K C f ∧ mg x = some (.ref C) ∧ Binds K fd ps []
section
variable {X : Cx} {k j : Nat} {x : Str} {C : Addr} {sp : Sp} {e : Expr} {es : List Expr} {p pos : Pos} {t : TA}
theorem pe_mk (c : HasMk X.prog X.w X.K X.mg X.base k x C sp) (hr : Room j X.A) (hk : k + 1 ≤ j) (hg : Gl X x) (ha : PA X (e :: es) t) (hdb : (x == ("__debug__" : Str)) = false := by decide) (he : starEach (e :: es) X.env = (false, eval e X.env) :: starEach es X.env := by rfl) (hpl : (backTo pos (starEach es X.env)).any (·.1) = false := by rfl) :
    PE X (.Call (.Name x p) (e :: es) [] pos) (tMake C sp [] E0 t) := by
  obtain ⟨f, fd, ps, F, M, m, b⟩ := c.ex
  exact pe_make M F (hr.mono hk) hg m b .nil pass0 ha (hdb := hdb) (he := he) (hpl := hpl)
theorem pe_mk0 (c : HasMk X.prog X.w X.K X.mg X.base k x C sp) (hr : Room j X.A) (hk : k + 1 ≤ j) (hg : Gl X x) (hdb : (x == ("__debug__" : Str)) = false := by decide) :
    PE X (.Call (.Name x p) [] [] pos) (tMake C sp [] E0 tNil) := by
  obtain ⟨f, fd, ps, F, M, m, b⟩ := c.ex
  exact pe_make0 M F (hr.mono hk) hg m b .nil pass0 (hdb := hdb)
end
section
variable {K : PySem.W.Frag} {ρ : Rx} {μ μ1 μ2 : Mu} {te : TE} {t : TT} {d e : D} {x y : SV} {b c : Bool}
/-- by what is read of slots, an expression's value (any order of slots and cells) -/
theorem ex_it (h : EX K te ρ μ (.d d) μ2) (e' : d = e) : EX K te ρ μ (.d e) μ2 := e' ▸ h
theorem xm_ifF2 {tt : TT} {t u : TS} {o : OutX} (h : TX K tt ρ μ b μ1) (hb : b = false) (h1 : XM K u ρ μ1 o) : XM K (tIfS tt t u) ρ μ o := xm_ifF (hb ▸ h) h1
theorem xm_ifT2 {tt : TT} {t u : TS} {o : OutX} (h : TX K tt ρ μ b μ1) (hb : b = true) (h1 : XM K t ρ μ1 o) : XM K (tIfS tt t u) ρ μ o := xm_ifT (hb ▸ h) h1
end
end LM
namespace LM
open PySem PySem.Spec PyProof.Rows L2 Evl
section
variable {K : PySem.W.Frag} {ρ : Rx} {μ μ1 μ2 : Mu} {te : TE} {tl th : TO} {ds : List D} {lo hi : Option Int} {n : Nat} {C : Addr} {fs : List (Str × SV)} {f : Str} {x : SV} {i : Nat}
theorem ex_slT (h : EX K te ρ μ (.d (.tuple ds)) μ1) (h1 : EO K tl (pur ρ) lo) (h2 : EO K th (pur ρ) hi) : EX K (tSl (rSlU K) te tl th) ρ μ (.d (.tuple (cut ds lo hi))) μ1 := fun σ H Hm α s l hs S Q q =>
  h σ H Hm α s l hs S _ fun v H1 Hm1 α1 A1 d1 => by
    have l' : (pur ρ).length ≤ σ.length := by rw [pur_len]; exact l
    have hs1 := (hs.aft A1).pur
    refine h1 σ H1 Hm1 A1.gr.sub l' hs1 _ fun H2 Hm2 g2 => h2 σ H2 Hm2 g2.sub l' (hs1.mono g2.em) _ fun H3 Hm3 g3 => ?_
    obtain ⟨a, xs, rfl, hx, ha⟩ := dp_tup d1
    have g23 := g2.trans g3
    have A3 := A1.trans (Aft.ofGr A1.sto g23)
    refine .inl ⟨a, xs, rfl, ex_t g3.sub (ex_t g23.em hx), fun e => ?_, fun _ p hp => ?_⟩
    · have e' : cut ds lo hi = ds := by
        unfold cut
        rw [← ha.len, e.1, e.2, ha.len, List.drop_zero, Nat.sub_zero, List.take_length]
      rw [e'] at q
      exact q _ H3 Hm3 α1 A3 (Dp.tup (ex_t g23.em hx) (ha.mono g23.em))
    · exact q _ _ _ α1 (A3.trans (Aft.ofGr A3.sto (Gr.new g3.sub hp))) (Dp.tup (.inl (.inl upd_same)) (((cut_dp ha).mono g23.em).mono (Ex.new (fresh_back g3.sub hp))))
/-- self.f, self in slot i -/
theorem ex_self (hi : ρ[i]? = some (some (.o n))) (hm : μ[n]? = some (.ins C fs)) (c : Cls K C) (na : NoAttr K C f) (hf : fs.lookup f = some x) : EX K (tFld K (tVar i) f) ρ μ x μ := ex_fld (ex_var hi) hm c na hf
end
end LM

set_option Elab.async false
set_option linter.all false
set_option pp.maxSteps 600
set_option maxRecDepth 100000
set_option maxHeartbeats 1000000
/-! LmH: dicts whose keys are nested to any depth, no two of one hash. -/
namespace LM
open PySem PySem.Spec PyProof.Rows L2 Evl
open Sem (wp)

/-- an entry of such a dict -/
def entW (w : World) (q : NestedKey × Addr × Value) : DictEntry := ⟨q.1.hash w, .ref q.2.1, q.2.2⟩
section
variable {P : Program} {w : World} {A : Around} {E : Value → Shared → Prop} {s : Shared}
theorem nested_mem {h : Heap} {u : Value} : ∀ {ks : List NestedKey} {vs : List Value}, NestedAll h ks vs → u ∈ vs → ∃ k ∈ ks, NestedIs h k u
  | [], _, x, hu => by cases x; cases hu
  | k :: ks, _, x, hu => by
    cases x with
    | cons x1 x2 =>
      rcases List.mem_cons.mp hu with e | hu
      · rw [e]; exact ⟨k, List.mem_cons_self, x1⟩
      · obtain ⟨k', h1, h2⟩ := nested_mem x2 hu
        exact ⟨k', List.mem_cons_of_mem _ h1, h2⟩
/-- whether asking == is quiet: some answer -/
theorem quiet_any : ∀ (n : Nat) (k : NestedKey) (v : Value) (Q : Bool → Shared → Prop), NestedIs s.heap k v → (∀ b, Q b s) → wpAny (model P w) A (eqIsQuiet n v) Q E s
  | n, .none, v, Q, x, q => quiet_key _ v n s x (Nat.zero_le _) A E Q (q true)
  | n, .num i, v, Q, x, q => quiet_key _ v n s x (Nat.zero_le _) A E Q (q true)
  | n, .text y, v, Q, x, q => quiet_key _ v n s x (Nat.zero_le _) A E Q (q true)
  | 0, .tup ks, v, Q, x, q => by
    cases x with
    | @tup a o vs m _ hg hc hd hk =>
      unfold eqIsQuiet
      refine wpAny_bind (wpAny_specialOf ⟨o, hg, hc⟩ F.slot_tuple_eq.lookup ?_)
      dsimp only
      refine wpAny_bind (wpAny_isInstance ⟨o, hg, hc⟩ isSubtype_tuple_tuple ?_)
      simp only [Bool.not_true, Bool.false_eq_true, if_false]
      exact wpAny_pure (q false)
  | n + 1, .tup ks, v, Q, x, q => by
    cases x with
    | @tup a o vs m _ hg hc hd hk =>
      unfold eqIsQuiet
      refine wpAny_bind (wpAny_specialOf ⟨o, hg, hc⟩ F.slot_tuple_eq.lookup ?_)
      dsimp only
      refine wpAny_bind (wpAny_isInstance ⟨o, hg, hc⟩ isSubtype_tuple_tuple ?_)
      simp only [Bool.not_true, Bool.false_eq_true, if_false]
      refine wpAny_bind (wpAny_seqItems hg hd ?_)
      refine wpAny_bind ?_
      show wpAny _ _ (forIn vs _ _) _ _ s
      rw [← Array.forIn_toList]
      refine wpAny_forIn_list _ (fun rest r s' => s' = s ∧ r.1 = none ∧ ∀ u ∈ rest, ∃ k ∈ ks, NestedIs s.heap k u) _ ?_ ?_ _ _ ⟨rfl, rfl, fun u hu => nested_mem hk hu⟩
      · rintro u rest ⟨r1, r2⟩ s' ⟨e, e2, ha⟩
        have e := e.symm
        subst e
        obtain ⟨k, hm, y⟩ := ha u List.mem_cons_self
        refine wpAny_bind (quiet_any n k u _ y fun b => ?_)
        cases b with
        | false =>
          simp only [Bool.not_false, if_true]
          exact wpAny_pure (wpAny_pure (q false))
        | true =>
          simp only [Bool.not_true, Bool.false_eq_true, if_false]
          exact wpAny_pure ⟨rfl, rfl, fun v hv => ha v (List.mem_cons_of_mem _ hv)⟩
      · rintro ⟨r1, r2⟩ s' ⟨e, e2, _⟩
        have e := e.symm
        subst e
        simp only at e2
        subst e2
        exact wpAny_pure (q true)
/-- does the table tell: some answer -/
theorem tell_any {k : NestedKey} {a : Addr} {st : List Value} {Q : Bool → Shared → Prop} (x : NestedIs s.heap k (.ref a)) (y : ∀ v ∈ st, ∃ j, NestedIs s.heap j v) (q : ∀ b, Q b s) : wpAny (model P w) A (tableMayTell (.ref a) st) Q E s := by
  unfold tableMayTell
  split
  · exact wpAny_pure (q false)
  · refine wpAny_bind (quiet_any 8 k _ _ x fun b => ?_)
    cases b with
    | false =>
      simp only [Bool.not_false, if_true]
      exact wpAny_pure (q true)
    | true =>
      simp only [Bool.not_true, Bool.false_eq_true, if_false]
      refine wpAny_bind ?_
      refine wpAny_forIn_list _ (fun rest r s' => s' = s ∧ r.1 = none ∧ ∀ u ∈ rest, ∃ j, NestedIs s.heap j u) _ ?_ ?_ _ _ ⟨rfl, rfl, y⟩
      · rintro u rest ⟨r1, r2⟩ s' ⟨e, e2, ha⟩
        have e := e.symm
        subst e
        obtain ⟨j, yj⟩ := ha u List.mem_cons_self
        refine wpAny_bind (quiet_any 8 j u _ yj fun b => ?_)
        cases b with
        | false =>
          simp only [Bool.not_false, if_true]
          exact wpAny_pure (wpAny_pure (q true))
        | true =>
          simp only [Bool.not_true, Bool.false_eq_true, if_false]
          exact wpAny_pure ⟨rfl, rfl, fun v hv => ha v (List.mem_cons_of_mem _ hv)⟩
      · rintro ⟨r1, r2⟩ s' ⟨e, e2, _⟩
        have e := e.symm
        subst e
        simp only at e2
        subst e2
        exact wpAny_pure (q false)
theorem range_one {q : Nat → Bool} {j : Nat} : ∀ {n : Nat}, j < n → (∀ i, i < n → (q i = true ↔ i = j)) → (List.range n).filter q = [j]
  | n + 1, hj, h => by
    rw [List.range_succ, List.filter_append]
    by_cases e : j = n
    · subst e
      have e1 : (List.range j).filter q = [] := List.filter_eq_nil_iff.mpr fun i hi c => by
        have li := List.mem_range.mp hi
        have := (h i (by omega)).mp c
        omega
      have e2 : q j = true := (h j (Nat.lt_succ_self j)).mpr rfl
      rw [e1, List.filter_cons_of_pos e2]; rfl
    · have e1 := range_one (q := q) (j := j) (n := n) (by omega) fun i hi => h i (by omega)
      have e2 : ¬ q n = true := fun c => e ((h n (Nat.lt_succ_self n)).mp c).symm
      rw [e1, List.filter_cons_of_neg e2]; rfl
/-- dict's search, no two keys of one hash -/
theorem find_U {d a : Addr} {o : Obj} {es : Array DictEntry} {ep : Nat} {xs : List (NestedKey × Addr × Value)} {k : NestedKey} {Q : Option Nat → Shared → Prop} (hu : A.units + k.depth < cLine) (hkey : NestedIs s.heap k (.ref a)) (ho : s.heap.get? d = some o)
    (hd : o.data = .dict es ep) (he : es.toList = xs.map (entW w)) (his : ∀ x ∈ xs, NestedIs s.heap x.1 (.ref x.2.1)) (hn : (xs.map (·.1)).Nodup) (hun : ∀ x ∈ xs, x.1.hash w = k.hash w → x.1 = k)
    (hnone : atKey xs k = none → Q none s) (hsome : ∀ (j : Nat) (p : Addr × Value), xs[j]? = some (k, p) → Q (some j) s) : wpAny (model P w) A (dictFind d (.ref a) (k.hash w)) Q E s := by
  have sz : es.size = xs.length := by rw [← Array.length_toList, he, List.length_map]
  have at_ : ∀ i : Nat, es[i]? = (xs[i]?).map (entW w) := fun i => by rw [← Array.getElem?_toList, he, List.getElem?_map]
  have old : ¬ (es.any fun e => e.key == Value.ref a && e.hash != k.hash w) = true := by
    rw [← Array.any_toList, List.any_eq_true, he]
    rintro ⟨e, hm, c⟩
    obtain ⟨x, hx, rfl⟩ := List.mem_map.mp hm
    simp only [entW, Bool.and_eq_true, beq_iff_eq, bne_iff_ne, ne_eq, Value.ref.injEq] at c
    have y := his x hx
    rw [c.1] at y
    exact c.2 (by rw [NestedIs.inj _ _ _ y hkey])
  unfold dictFind
  refine wpAny_holding (wpAny_bind (wpAny_dictEntries ho hd ?_))
  dsimp only
  have nv : ∀ l : List Value, ¬ (Value.ref a :: l).all carriedByValue = true := fun l => by simp [carriedByValue]
  rw [if_neg (nv _), if_neg old]
  cases hc : atKey xs k with
  | none =>
    have pl : placesWithHash es.size (fun i => es[i]?.map (·.hash)) (k.hash w) = [] := by
      unfold placesWithHash
      refine List.filter_eq_nil_iff.mpr fun i hi c => ?_
      dsimp only at c
      rw [at_] at c
      cases hx : xs[i]? with
      | none => rw [hx] at c; simp at c
      | some x =>
        rw [hx] at c
        have c' : x.1.hash w = k.hash w := by simpa [entW] using c
        have e := hun x (List.mem_of_getElem? hx) c'
        have : atKey xs k = some x.2 := atKey_of_get hn (i := i) (by rw [hx, ← e])
        rw [hc] at this
        cases this
    rw [pl]
    rw [List.filterMap_nil]
    have ne : ¬ (([] : List Value) == [Value.ref a]) = true := by simp
    rw [if_neg ne]
    refine wpAny_bind (tell_any hkey (fun v h => nomatch h) fun b => ?_)
    have l0 : ¬ (b && decide (([] : List Value).length ≥ 2)) = true := by simp
    rw [if_neg l0]
    try refine wpAny_bind (wpAny_pure ?_)
    exact wpAny_pure (hnone hc)
  | some p =>
    obtain ⟨j, hj⟩ : ∃ j, xs[j]? = some (k, p) := by
      unfold atKey at hc
      obtain ⟨y, hy, e⟩ := Option.map_eq_some_iff.mp hc
      have m := List.mem_of_find?_eq_some hy
      have e2 : y.1 = k := of_decide_eq_true (List.find?_some (p := fun x : NestedKey × Addr × Value => decide (x.1 = k)) hy)
      obtain ⟨j, hj⟩ := List.mem_iff_getElem?.mp m
      exact ⟨j, by rw [hj, ← e2, ← e]⟩
    have lj : j < es.size := by rw [sz]; exact (List.getElem?_eq_some_iff.mp hj).1
    have ej : es[j]? = some ⟨k.hash w, .ref p.1, p.2⟩ := by rw [at_, hj]; rfl
    have pl : placesWithHash es.size (fun i => es[i]?.map (·.hash)) (k.hash w) = [j] := by
      unfold placesWithHash
      refine range_one lj fun i hi => ⟨fun c => ?_, fun c => by dsimp only; rw [c, ej]; simp⟩
      dsimp only at c
      rw [at_] at c
      cases hx : xs[i]? with
      | none => rw [hx] at c; simp at c
      | some x =>
        rw [hx] at c
        have c' : x.1.hash w = k.hash w := by simpa [entW] using c
        have e := hun x (List.mem_of_getElem? hx) c'
        exact idxH_unique hn (k := k) (p := x.2) (by rw [hx, ← e]) hj
    have y : NestedIs s.heap k (.ref p.1) := his (k, p) (List.mem_of_getElem? hj)
    rw [pl]
    have st : [j].filterMap (fun i => es[i]?.map (·.key)) = [Value.ref p.1] := by simp [ej]
    rw [st]
    by_cases h1 : ([Value.ref p.1] == [Value.ref a]) = true
    · rw [if_pos h1]
      refine wpAny_bind (wpAny_pure ?_)
      have l0 : ¬ (false && decide ([Value.ref p.1].length ≥ 2)) = true := by simp
      rw [if_neg l0]
      try refine wpAny_bind (wpAny_pure ?_)
      refine wpAny_bind ?_
      rw [List.forIn_cons]
      rw [ej]
      dsimp only
      have hh : (k.hash w == k.hash w) = true := by simp
      rw [if_pos hh]
      refine wpAny_bind ?_
      refine wpAny_bind (wpAny_dictEpoch ho hd ?_)
      refine wpAny_bind (eqAt_key k k A s _ _ y hkey (by rw [Nat.min_self]; exact hu) _ _ _ _ ?_)
      refine wpAny_bind (wpAny_dictEpoch ho hd ?_)
      rw [NestedKey.beq_self]
      rw [if_neg (show ¬ (ep != ep) = true by simp)]
      try refine wpAny_bind (wpAny_pure ?_)
      rw [if_pos rfl]
      rw [if_neg (show ¬ (none : Option Nat).isSome = true by simp)]
      try refine wpAny_bind (wpAny_pure ?_)
      refine wpAny_bind (wpAny_rule ?_)
      rw [if_pos (show [Value.ref p.1].length < 2 from Nat.lt_succ_self 1)]
      exact wpAny_pure (wpAny_pure (wpAny_pure (hsome j p hj)))
    · rw [if_neg h1]
      refine wpAny_bind (tell_any hkey (fun v h => ⟨k, by rw [List.mem_singleton.mp h]; exact y⟩) fun b => ?_)
      have l0 : ¬ (b && decide ([Value.ref p.1].length ≥ 2)) = true := by simp
      rw [if_neg l0]
      try refine wpAny_bind (wpAny_pure ?_)
      refine wpAny_bind ?_
      rw [List.forIn_cons]
      rw [ej]
      dsimp only
      have hh : (k.hash w == k.hash w) = true := by simp
      rw [if_pos hh]
      refine wpAny_bind ?_
      refine wpAny_bind (wpAny_dictEpoch ho hd ?_)
      refine wpAny_bind (eqAt_key k k A s _ _ y hkey (by rw [Nat.min_self]; exact hu) _ _ _ _ ?_)
      refine wpAny_bind (wpAny_dictEpoch ho hd ?_)
      rw [NestedKey.beq_self]
      rw [if_neg (show ¬ (ep != ep) = true by simp)]
      try refine wpAny_bind (wpAny_pure ?_)
      rw [if_pos rfl]
      rw [if_neg (show ¬ (none : Option Nat).isSome = true by simp)]
      try refine wpAny_bind (wpAny_pure ?_)
      refine wpAny_bind (wpAny_rule ?_)
      rw [if_pos (show [Value.ref p.1].length < 2 from Nat.lt_succ_self 1)]
      exact wpAny_pure (wpAny_pure (wpAny_pure (hsome j p hj)))
/-- such a dict -/
def DictU (w : World) (h : Heap) (d : Addr) (xs : List (NestedKey × Addr × Value)) : Prop :=
  ∃ o es ep, h.get? d = some o ∧ o.ExactDict ∧ o.data = .dict es ep ∧ es.toList = xs.map (entW w) ∧ (∀ x ∈ xs, NestedIs h x.1 (.ref x.2.1)) ∧ (xs.map (·.1)).Nodup
theorem DictU.ty {d : Addr} {xs : List (NestedKey × Addr × Value)} (h : DictU w s.heap d xs) : s.TypeIs (.ref d) "dict" := by
  obtain ⟨o, _, _, e, c, _⟩ := h
  exact ⟨o, e, c.1⟩
theorem get_U {d a : Addr} {xs : List (NestedKey × Addr × Value)} {k : NestedKey} {Q : Option Value → Shared → Prop} (hu : A.units + k.depth < cLine) (hkey : NestedIs s.heap k (.ref a)) (m : DictU w s.heap d xs) (hun : ∀ x ∈ xs, x.1.hash w = k.hash w → x.1 = k)
    (q : Q ((atKey xs k).map (·.2)) { s with toks := s.toks + k.draws }) : wpAny (model P w) A (dictGet d (.ref a)) Q E s := by
  obtain ⟨o, es, ep, ho, _, hd, he, his, hn⟩ := m
  have at_ : ∀ i : Nat, es[i]? = (xs[i]?).map (entW w) := fun i => by rw [← Array.getElem?_toList, he, List.getElem?_map]
  unfold dictGet
  refine wpAny_holding (wpAny_bind (pyHash_key k _ A s _ hkey hu (wpAny_bind ?_)))
  refine find_U (s := { s with toks := s.toks + k.draws }) hu hkey ho hd he his hn hun (fun hc => ?_) fun j p hj => ?_
  · rw [hc] at q
    exact wpAny_pure q
  · rw [atKey_of_get hn hj] at q
    refine wpAny_bind (wpAny_dictEntries (s := { s with toks := s.toks + k.draws }) ho hd ?_)
    rw [at_, hj]
    exact wpAny_pure q
theorem nested_but {h h' : Heap} {d a : Addr} {o : Obj} {es : Array DictEntry} {ep : Nat} {k : NestedKey} (x : NestedIs h k (.ref a)) (ho : h.get? d = some o) (hd : o.data = .dict es ep) (sb : Heap.SameBut d h h') : NestedIs h' k (.ref a) :=
  NestedIs.at (fun b ob vs n hb hc => (sb.2 b fun e => by
    rw [e, ho] at hb
    cases hb
    rw [hd] at hc
    cases hc).trans hb) k _ x
theorem set_U {d a : Addr} {xs : List (NestedKey × Addr × Value)} {k : NestedKey} {v : Value} {Q : Unit → Shared → Prop} (hu : A.units + k.depth < cLine) (hkey : NestedIs s.heap k (.ref a)) (m : DictU w s.heap d xs) (hun : ∀ x ∈ xs, x.1.hash w = k.hash w → x.1 = k) (hz : xs.length ≤ sizeLine)
    (q : ∀ h', DictU w h' d (storedH xs k a v) → Heap.SameBut d s.heap h' → Q () { s with heap := h', toks := s.toks + k.draws }) : wpAny (model P w) A (dictSet d (.ref a) v) Q E s := by
  obtain ⟨o, es, ep, ho, hc, hd, he, his, hn⟩ := m
  have sz : es.size = xs.length := by rw [← Array.length_toList, he, List.length_map]
  unfold dictSet
  refine wpAny_holding (wpAny_bind (pyHash_key k _ A s _ hkey hu ?_))
  unfold dictSetHashed
  refine wpAny_holding (wpAny_bind ?_)
  refine find_U (s := { s with toks := s.toks + k.draws }) hu hkey ho hd he his hn hun (fun c => ?_) fun j p hj => ?_
  · have out : k ∉ xs.map (·.1) := fun hm => by
      obtain ⟨x, hx, rfl⟩ := List.mem_map.mp hm
      obtain ⟨j, hj⟩ := List.mem_iff_getElem?.mp hx
      have := atKey_of_get hn (i := j) (k := x.1) (p := x.2) hj
      rw [c] at this
      cases this
    have sb : Heap.SameBut d s.heap (s.heap.update d (Obj.mapDictKeys fun l => l.push ⟨k.hash w, .ref a, v⟩)) := Heap.SameBut.update ..
    refine wpAny_bind (wpAny_rule (wpAny_updateDictKeys (hz := by omega) (s := { s with toks := s.toks + k.draws }) ho hd (q _ ?_ sb)))
    refine ⟨_, _, ep + 1, Heap.get?_update_self _ ho (Obj.isFreed_of_dict (Obj.data_mapDictKeys hd _)), hc.mapDictKeys _, Obj.data_mapDictKeys hd _, ?_, fun x hx => ?_, ?_⟩
    · rw [storedH_new c, List.map_append, ← he]
      simp [entW]
    · rw [storedH_new c] at hx
      rcases List.mem_append.mp hx with hx | hx
      · exact nested_but (his x hx) ho hd sb
      · rw [List.mem_singleton.mp hx]
        exact nested_but hkey ho hd sb
    · rw [storedH_new c, List.map_append, List.nodup_append]
      exact ⟨hn, by simp, fun x hx y hy e => by rw [List.map_cons, List.map_nil, List.mem_singleton] at hy; exact out (by subst hy; subst e; exact hx)⟩
  · have sb : Heap.SameBut d s.heap (s.heap.update d (Obj.mapDict fun l => l.modify j fun e => { e with val := v })) := Heap.SameBut.update ..
    refine wpAny_bind (wpAny_rule (wpAny_bind (wpAny_updateDict (s := { s with toks := s.toks + k.draws }) ho hd (wpAny_point (q _ ?_ sb)))))
    refine ⟨_, _, ep, Heap.get?_update_self _ ho (Obj.isFreed_of_dict (Obj.data_mapDict hd _)), hc.mapDict _, Obj.data_mapDict hd _, ?_, fun x hx => ?_, ?_⟩
    · rw [storedH_old (atKey_of_get hn hj)]
      have mm := modify_map_putAt (entW w) (fun e : DictEntry => { e with val := v }) k v (fun _ _ => rfl) hn hj
      rw [← he] at mm
      obtain ⟨l⟩ := es
      simpa using mm
    · rw [storedH_old (atKey_of_get hn hj)] at hx
      obtain ⟨y, hy, rfl⟩ := List.mem_map.mp hx
      unfold putAt
      split <;> exact nested_but (his y hy) ho hd sb
    · rw [storedH_old (atKey_of_get hn hj), keys_map_putAt]
      exact hn
/-- k in d -/
theorem has_U {d a : Addr} {xs : List (NestedKey × Addr × Value)} {k : NestedKey} {Q : Bool → Shared → Prop} (hu : A.in1.units + k.depth < cLine) (hkey : NestedIs s.heap k (.ref a)) (hs : (d == sysModules) = false) (m : DictU w s.heap d xs) (hun : ∀ x ∈ xs, x.1.hash w = k.hash w → x.1 = k)
    (q : Q (atKey xs k).isSome { s with toks := s.toks + k.draws }) : wpAny (model P w) A (contains (.ref d) (.ref a)) Q E s := by
  have ty := m.ty
  unfold contains
  refine wpAny_holding (wpAny_bind (wpAny_specialOf ty slot_dict_contains.lookup ?_))
  have ne : ¬ (some (Value.builtin "dict.__contains__") == some Value.none) = true := by rw [beq_builtin_none]; exact Bool.false_ne_true
  dsimp only
  rw [if_neg ne]
  refine wpAny_bind (wpAny_callSpecialUnlessNone?_slot (name := Str.ofString "__contains__") ty slot_dict_contains (wpAny_call_entry slot_dict_contains ty entry_dict_contains ?_ (args_dict_contains _ _)))
  show wpAny _ _ (dictGet d (.ref a) >>= _) _ _ s
  refine wpAny_bind (get_U hu hkey m hun ?_)
  cases hf : atKey xs k with
  | some p =>
    rw [hf] at q
    show wpAny _ _ (ret (.bool true)) _ _ _
    exact wpAny_pure ⟨_, rfl, wpAny_truthy_bool q⟩
  | none =>
    rw [hf] at q
    show wpAny _ _ (Builtin.Dict.pendingKey? d (.ref a) >>= _) _ _ _
    exact wpAny_bind (wpAny_pendingKey_other hs (wpAny_pure ⟨_, rfl, wpAny_truthy_bool q⟩))
theorem in_U {d a : Addr} {xs : List (NestedKey × Addr × Value)} {k : NestedKey} {Q : Value → Shared → Prop} (hu : A.in1.units + k.depth < cLine) (hkey : NestedIs s.heap k (.ref a)) (hs : (d == sysModules) = false) (m : DictU w s.heap d xs) (hun : ∀ x ∈ xs, x.1.hash w = k.hash w → x.1 = k)
    (q : Q (.bool (atKey xs k).isSome) { s with toks := s.toks + k.draws }) : wpAny (model P w) A (compareOp .In (.ref a) (.ref d)) Q E s := by
  show wpAny _ _ (contains (.ref d) (.ref a) >>= fun b => pure (.bool b)) Q E s
  exact wpAny_bind (has_U hu hkey hs m hun (wpAny_pure q))
theorem notIn_U {d a : Addr} {xs : List (NestedKey × Addr × Value)} {k : NestedKey} {Q : Value → Shared → Prop} (hu : A.in1.units + k.depth < cLine) (hkey : NestedIs s.heap k (.ref a)) (hs : (d == sysModules) = false) (m : DictU w s.heap d xs) (hun : ∀ x ∈ xs, x.1.hash w = k.hash w → x.1 = k)
    (q : Q (.bool (!(atKey xs k).isSome)) { s with toks := s.toks + k.draws }) : wpAny (model P w) A (compareOp .NotIn (.ref a) (.ref d)) Q E s := by
  show wpAny _ _ (contains (.ref d) (.ref a) >>= fun b => pure (.bool (!b))) Q E s
  exact wpAny_bind (has_U hu hkey hs m hun (wpAny_pure q))
/-- d[k] -/
theorem item_U {d a : Addr} {xs : List (NestedKey × Addr × Value)} {k : NestedKey} {p : Addr × Value} {Q : Value → Shared → Prop} (hu : A.in1.units + k.depth < cLine) (hkey : NestedIs s.heap k (.ref a)) (m : DictU w s.heap d xs) (hun : ∀ x ∈ xs, x.1.hash w = k.hash w → x.1 = k) (hp : atKey xs k = some p)
    (q : Q p.2 { s with toks := s.toks + k.draws }) : wpAny (model P w) A (getItem (.ref d) (.ref a)) Q E s := by
  have ty := m.ty
  unfold getItem
  refine wpAny_holding (wpAny_bind (wpAny_sequenceKey ty (by decide) ?_))
  refine wpAny_bind (wpAny_callSpecial?_slot (name := Str.ofString "__getitem__") ty slot_dict_getitem (wpAny_call_entry slot_dict_getitem ty entry_dict_getitem ?_ (args_dict_getitem _ _)))
  show wpAny _ _ (dictGet d (.ref a) >>= _) _ _ s
  refine wpAny_bind (get_U hu hkey m hun ?_)
  rw [hp]
  exact wpAny_pure ⟨p.2, rfl, wpAny_pure q⟩
/-- d[k] = v -/
theorem put_U {d a : Addr} {xs : List (NestedKey × Addr × Value)} {k : NestedKey} {v : Value} {Q : Unit → Shared → Prop} (hu : A.in1.units + k.depth < cLine) (hkey : NestedIs s.heap k (.ref a)) (m : DictU w s.heap d xs) (hun : ∀ x ∈ xs, x.1.hash w = k.hash w → x.1 = k) (hz : xs.length ≤ sizeLine)
    (q : ∀ h', DictU w h' d (storedH xs k a v) → Heap.SameBut d s.heap h' → Q () { s with heap := h', toks := s.toks + k.draws }) : wpAny (model P w) A (setItem (.ref d) (.ref a) v) Q E s := by
  have ty := m.ty
  unfold setItem
  refine wpAny_holding (wpAny_bind (wpAny_sequenceKey ty (by decide) ?_))
  refine wpAny_bind (wpAny_callSpecial?_slot (name := Str.ofString "__setitem__") ty slot_dict_setitem (wpAny_call_entry slot_dict_setitem ty entry_dict_setitem ?_ (args_dict_setitem _ _ _)))
  show wpAny _ _ (Builtin.Dict.notOrdered "__setitem__" ⟨[.ref d, .ref a, v], []⟩ >>= _) _ _ s
  refine wpAny_bind (wpAny_notOrdered_dict ty ?_)
  show wpAny _ _ (dictSet d (.ref a) v >>= _) _ _ s
  exact wpAny_bind (set_U hu hkey m hun hz fun h' m' sb => wpAny_pure ⟨.none, rfl, wpAny_pure (q h' m' sb)⟩)
end
end LM

set_option Elab.async false
set_option linter.all false
set_option maxRecDepth 100000
set_option maxHeartbeats 1000000
/-! LmD: dicts whose keys are nested tuples, as caches: what is known at each key is what a function tells. -/
namespace LM
open PySem PySem.Spec PyProof.Rows L2 Evl

/-! ### data as keys -/
mutual
def keyOf : D → NestedKey
  | .none => .none
  | .bool b => .num (if b = true then 1 else 0)
  | .int i => .num i
  | .str x => .text x
  | .tuple ds => .tup (keysOf ds)
  | .list _ => .none
  | .dict _ => .none
def keysOf : List D → List NestedKey
  | [] => []
  | d :: ds => keyOf d :: keysOf ds
end
section
variable {X : Cx} {pins : List (Addr × Obj)} {σ : L2.St} {H : Hp} {s : Shared}
mutual
theorem nested_of (I : Inv X pins σ H s) : ∀ (d : D) (v : V) (u : Value), imm d = true → Dp X.K H v d → RelV v u → NestedIs s.heap (keyOf d) u
  | .none, _, _, _, h, r => by cases h; cases r; exact .none
  | .bool b, _, _, _, h, r => by cases h; cases r; exact .bool rfl
  | .int i, _, _, _, h, r => by cases h; obtain ⟨t, rfl⟩ := r; exact .int i t
  | .str x, _, _, _, h, r => by cases h; obtain ⟨t, rfl⟩ := r; exact .text x t
  | .list ds, _, _, m, _, _ => by cases m
  | .dict _, _, _, m, _, _ => by cases m
  | .tuple ds, _, _, m, h, r => by
    cases h with
    | tup hs ha =>
      cases r
      obtain ⟨its, rv, ⟨o, ho, hc, n, hd⟩, _⟩ := I.tuple hs
      exact .tup ho hc hd (nesteds_of I ds _ its m ha rv)
theorem nesteds_of (I : Inv X pins σ H s) : ∀ (ds : List D) (vs : List V) (us : List Value), imms ds = true → DpAll X.K H vs ds → Vals vs us → NestedAll s.heap (keysOf ds) us
  | [], _, _, _, h, r => by cases h; cases r; exact .nil
  | d :: ds, _, _, m, h, r => by
    cases h with
    | cons h1 h2 =>
      cases r with
      | cons r1 r2 =>
        have m' : imm d = true ∧ imms ds = true := by simpa [imms] using m
        exact .cons (nested_of I d _ _ m'.1 h1 r1) (nesteds_of I ds _ _ m'.2 h2 r2)
end
end

/-! ### the dict's object -/
abbrev DK := List (NestedKey × Addr × V)
abbrev DX := List (NestedKey × Addr × Value)
def relD : DK → DX → Prop := Paired fun p q => p.1 = q.1 ∧ p.2.1 = q.2.1 ∧ RelV p.2.2 q.2.2
def dctP (w : World) (a : Addr) (kvs : DK) (h : Heap) : Prop := kvs.length ≤ sizeLine ∧ (a == sysModules) = false ∧ ∃ xs : DX, relD kvs xs ∧ ∃ o es ep, h.get? a = some o ∧ o.ExactDict ∧ o.data = .dict es ep ∧ es.toList = xs.map (entW w)
def dctO (w : World) (a : Addr) (kvs : DK) : HO := .ext (dctP w a kvs)
theorem dct_ok {P : Program} {w : World} {H : Hp} {h : Heap} {a : Addr} {kvs : DK} (p : dctP w a kvs h) : ObjOk P w H h a (dctO w a kvs) := by
  refine ⟨p, ?_, fun h1 h2 q e => ?_⟩
  · obtain ⟨_, _, xs, _, o, es, ep, e, _⟩ := p
    exact ⟨o, e⟩
  · obtain ⟨z, y, xs, r, o, es, ep, e1, c⟩ := q
    exact ⟨z, y, xs, r, o, es, ep, e o e1, c⟩
def valN (kvs : DK) (k : NestedKey) : Option V := (kvs.find? fun p => decide (p.1 = k)).map (·.2.2)
theorem relD.val {k : NestedKey} : ∀ {kvs : DK} {xs : DX}, relD kvs xs → RelO (valN kvs k) ((atKey xs k).map (·.2))
  | _, _, .nil => True.intro
  | p :: ps, q :: qs, .cons h t => by
    obtain ⟨h1, h2, h3⟩ := h
    by_cases e : p.1 = k
    · have a : valN (p :: ps) k = some p.2.2 := by simp [valN, List.find?_cons, e]
      have b : atKey (q :: qs) k = some q.2 := by simp [atKey, List.find?_cons, h1.symm.trans e]
      rw [a, b]; exact h3
    · have e' : ¬ q.1 = k := fun z => e (h1.trans z)
      have a : valN (p :: ps) k = valN ps k := by simp [valN, List.find?_cons, e]
      have b : atKey (q :: qs) k = atKey qs k := by simp [atKey, List.find?_cons, e']
      rw [a, b]; exact relD.val t
theorem relD.keys : ∀ {kvs : DK} {xs : DX}, relD kvs xs → xs.map (·.1) = kvs.map (·.1)
  | _, _, .nil => rfl
  | p :: ps, q :: qs, .cons h t => by rw [List.map_cons, List.map_cons, relD.keys t, h.1]
theorem relD.mem {x : NestedKey × Addr × Value} : ∀ {kvs : DK} {xs : DX}, relD kvs xs → x ∈ xs → ∃ p ∈ kvs, p.1 = x.1 ∧ p.2.1 = x.2.1
  | _, _, .nil, hx => nomatch hx
  | p :: ps, q :: qs, .cons h t, hx => by
    rcases List.mem_cons.mp hx with e | hx
    · exact ⟨p, List.mem_cons_self, by rw [e]; exact ⟨h.1, h.2.1⟩⟩
    · obtain ⟨p', h1, h2⟩ := relD.mem t hx
      exact ⟨p', List.mem_cons_of_mem _ h1, h2⟩
def putN (kvs : DK) (k : NestedKey) (a : Addr) (v : V) : DK := if (valN kvs k).isSome = true then kvs.map (fun p => if p.1 = k then (p.1, p.2.1, v) else p) else kvs ++ [(k, a, v)]
theorem relD.snoc {p : NestedKey × Addr × V} {q : NestedKey × Addr × Value} (h : p.1 = q.1 ∧ p.2.1 = q.2.1 ∧ RelV p.2.2 q.2.2) : ∀ {kvs : DK} {xs : DX}, relD kvs xs → relD (kvs ++ [p]) (xs ++ [q])
  | _, _, .nil => .cons h .nil
  | _, _, .cons h1 t => .cons h1 (relD.snoc h t)
theorem relD.repl {k : NestedKey} {v : V} {u : Value} (r : RelV v u) : ∀ {kvs : DK} {xs : DX}, relD kvs xs → relD (kvs.map fun p => if p.1 = k then (p.1, p.2.1, v) else p) (xs.map (putAt k u))
  | _, _, .nil => .nil
  | p :: ps, q :: qs, .cons h t => by
    refine .cons ?_ (relD.repl r t)
    obtain ⟨h1, h2, h3⟩ := h
    by_cases e : p.1 = k
    · have a : (if p.1 = k then (p.1, p.2.1, v) else p) = (p.1, p.2.1, v) := if_pos e
      have b : putAt k u q = (q.1, q.2.1, u) := if_pos (h1.symm.trans e)
      dsimp only
      rw [a, b]; exact ⟨h1, h2, r⟩
    · have a : (if p.1 = k then (p.1, p.2.1, v) else p) = p := if_neg e
      have b : putAt k u q = q := if_neg (fun z => e (h1.trans z))
      dsimp only
      rw [a, b]; exact ⟨h1, h2, h3⟩
theorem relD.put {k : NestedKey} {a : Addr} {v : V} {u : Value} {kvs : DK} {xs : DX} (r : relD kvs xs) (rv : RelV v u) : relD (putN kvs k a v) (storedH xs k a u) := by
  have e := (r.val (k := k)).isSome_eq
  rw [Option.isSome_map] at e
  unfold putN storedH
  rw [e]
  by_cases q : (atKey xs k).isSome = true
  · rw [if_pos q, if_pos q]; exact r.repl rv
  · rw [if_neg q, if_neg q]; exact r.snoc ⟨rfl, rfl, rv⟩
theorem relD.len : ∀ {kvs : DK} {xs : DX}, relD kvs xs → xs.length = kvs.length
  | _, _, .nil => rfl
  | _, _, .cons _ t => by rw [List.length_cons, List.length_cons, relD.len t]
theorem putN_len (kvs : DK) (k : NestedKey) (a : Addr) (v : V) : (putN kvs k a v).length ≤ kvs.length + 1 := by
  unfold putN
  split
  · rw [List.length_map]; omega
  · rw [List.length_append]; exact Nat.le_refl _
theorem valN_none {k : NestedKey} : ∀ {kvs : DK}, (valN kvs k).isSome = false → k ∉ kvs.map (·.1)
  | [], _, h => nomatch h
  | p :: ps, e, h => by
    by_cases q : p.1 = k
    · simp [valN, List.find?_cons, q] at e
    · have a : valN (p :: ps) k = valN ps k := by simp [valN, List.find?_cons, q]
      rw [a] at e
      rw [List.map_cons] at h
      rcases List.mem_cons.mp h with z | z
      · exact q z.symm
      · exact valN_none e z
theorem valN_some {k : NestedKey} : ∀ {kvs : DK}, (valN kvs k).isSome = true → ∃ p ∈ kvs, p.1 = k ∧ valN kvs k = some p.2.2
  | [], e => by cases e
  | p :: ps, e => by
    by_cases q : p.1 = k
    · exact ⟨p, List.mem_cons_self, q, by simp [valN, List.find?_cons, q]⟩
    · have a : valN (p :: ps) k = valN ps k := by simp [valN, List.find?_cons, q]
      rw [a] at e
      obtain ⟨p', h1, h2, h3⟩ := valN_some e
      exact ⟨p', List.mem_cons_of_mem _ h1, h2, a.trans h3⟩
theorem valN_of {k : NestedKey} {kvs : DK} (h : k ∈ kvs.map (·.1)) : (valN kvs k).isSome = true := by
  cases e : (valN kvs k).isSome with
  | true => rfl
  | false => exact absurd h (valN_none e)
theorem putN_mem {kvs : DK} {k : NestedKey} {a : Addr} {v : V} {p : NestedKey × Addr × V} (h : p ∈ putN kvs k a v) : p ∈ kvs ∨ (p.1 = k ∧ p.2.2 = v ∧ (p.2.1 = a ∨ ∃ q ∈ kvs, q.1 = k ∧ q.2.1 = p.2.1)) := by
  unfold putN at h
  split at h
  · obtain ⟨q, hq, rfl⟩ := List.mem_map.mp h
    by_cases e : q.1 = k
    · rw [if_pos e]; exact .inr ⟨e, rfl, .inr ⟨q, hq, e, rfl⟩⟩
    · rw [if_neg e]; exact .inl hq
  · rcases List.mem_append.mp h with h | h
    · exact .inl h
    · rw [List.mem_singleton.mp h]; exact .inr ⟨rfl, rfl, .inl rfl⟩
theorem putN_keys (kvs : DK) (k : NestedKey) (a : Addr) (v : V) : (putN kvs k a v).map (·.1) = if (valN kvs k).isSome = true then kvs.map (·.1) else kvs.map (·.1) ++ [k] := by
  unfold putN
  split
  · rw [List.map_map]
    refine List.map_congr_left fun p _ => ?_
    show (if p.1 = k then (p.1, p.2.1, v) else p).1 = p.1
    split <;> rfl
  · rw [List.map_append]; rfl
theorem putN_nodup {kvs : DK} {k : NestedKey} {a : Addr} {v : V} (h : (kvs.map (·.1)).Nodup) : ((putN kvs k a v).map (·.1)).Nodup := by
  rw [putN_keys]
  split
  · exact h
  · rename_i e
    rw [List.nodup_append]
    refine ⟨h, by simp, fun x hx y hy z => ?_⟩
    rw [List.mem_singleton.mp hy] at z
    exact valN_none (by simpa using e) (z ▸ hx)
theorem putN_has {kvs : DK} {k : NestedKey} {a : Addr} {v : V} : k ∈ (putN kvs k a v).map (·.1) := by
  rw [putN_keys]
  split
  · rename_i e
    obtain ⟨p, h1, h2, _⟩ := valN_some e
    exact List.mem_map.mpr ⟨p, h1, h2⟩
  · exact List.mem_append_right _ (List.mem_singleton.mpr rfl)
theorem putN_keep {kvs : DK} {k j : NestedKey} {a : Addr} {v : V} (h : j ∈ kvs.map (·.1)) : j ∈ (putN kvs k a v).map (·.1) := by
  rw [putN_keys]
  split
  · exact h
  · exact List.mem_append_left _ h

/-! ### rules -/
/-- the keys are data that hash in quiet -/
def KeysOk (K : PySem.W.Frag) (H : Hp) (kvs : DK) : Prop := (kvs.map (·.1)).Nodup ∧ ∀ p ∈ kvs, ∃ d, imm d = true ∧ keyOf d = p.1 ∧ Dp K H (.ref p.2.1) d
/-- the key k beside those stored: all quiet in being asked, or no other of its hash -/
def Safe (w : World) (kvs : DK) (k : NestedKey) : Prop := (k.depth ≤ 8 ∧ ∀ p ∈ kvs, p.1.depth ≤ 8) ∨ (k.depth ≤ 40 ∧ ∀ p ∈ kvs, p.1.hash w = k.hash w → p.1 = k)
def rInN (w : World) (K : PySem.W.Frag) (neg : Bool) : R2 := fun y x H Q => ∃ a b kvs d, x = .ref a ∧ y = .ref b ∧ H a = some (dctO w a kvs) ∧ KeysOk K H kvs ∧ imm d = true ∧ Safe w kvs (keyOf d) ∧ Dp K H (.ref b) d ∧
  Q (.bl (if neg = true then !(valN kvs (keyOf d)).isSome else (valN kvs (keyOf d)).isSome)) H
def rIxN (w : World) (K : PySem.W.Frag) : R2 := fun x y H Q => ∃ a b kvs d v, x = .ref a ∧ y = .ref b ∧ H a = some (dctO w a kvs) ∧ KeysOk K H kvs ∧ imm d = true ∧ Safe w kvs (keyOf d) ∧ Dp K H (.ref b) d ∧ valN kvs (keyOf d) = some v ∧ Q v H
def rSetN (w : World) (K : PySem.W.Frag) : TSet := fun x y v H Q => ∃ a b kvs d, x = .ref a ∧ y = .ref b ∧ H a = some (dctO w a kvs) ∧ KeysOk K H kvs ∧ kvs.length < sizeLine ∧ imm d = true ∧ Safe w kvs (keyOf d) ∧ Dp K H (.ref b) d ∧ Q (upd H a (dctO w a (putN kvs (keyOf d) b v)))
section
variable {X : Cx} {pins : List (Addr × Obj)} {σ : L2.St} {H : Hp} {s : Shared} {a b : Addr} {kvs : DK} {d : D}
theorem dct_of (I : Inv X pins σ H s) (e : H a = some (dctO X.w a kvs)) (k : KeysOk X.K H kvs) : kvs.length ≤ sizeLine ∧ (a == sysModules) = false ∧ ∃ xs : DX, relD kvs xs ∧ DictU X.w s.heap a xs := by
  obtain ⟨⟨z, y, xs, r, o, es, ep, h1, h2, h3, h4⟩, _, _⟩ := (show ObjOk X.prog X.w H s.heap a (dctO X.w a kvs) from I.hok a _ e)
  refine ⟨z, y, xs, r, o, es, ep, h1, h2, h3, h4, fun x hx => ?_, by rw [r.keys]; exact k.1⟩
  obtain ⟨p, hp, e1, e2⟩ := r.mem hx
  obtain ⟨d, m, ek, hd⟩ := k.2 p hp
  have n := nested_of I d _ (.ref p.2.1) m hd rfl
  rw [← e1, ← ek, ← e2]; exact n
theorem dct_small {h : Heap} {xs : DX} {P : Program} {w : World} {kvs : DK} (m : DictU w h a xs) (r : relD kvs xs) (sm : ∀ p ∈ kvs, p.1.depth ≤ 8) : h.DictOfH (nestedKind P w) a xs := by
  obtain ⟨o, es, ep, h1, h2, h3, h4, h5, h6⟩ := m
  refine ⟨o, es, ep, h1, h2, h3, h4, fun x hx => ⟨h5 x hx, ?_⟩, h6⟩
  obtain ⟨p, hp, e1, _⟩ := r.mem hx
  rw [← e1]; exact sm p hp
theorem uni_of {xs : DX} {w : World} {kvs : DK} {k : NestedKey} (r : relD kvs xs) (u : ∀ p ∈ kvs, p.1.hash w = k.hash w → p.1 = k) : ∀ x ∈ xs, x.1.hash w = k.hash w → x.1 = k := fun x hx e => by
  obtain ⟨p, hp, e1, _⟩ := r.mem hx
  rw [← e1] at e ⊢
  exact u p hp e
theorem key_is (I : Inv X pins σ H s) (m : imm d = true) (h : Dp X.K H (.ref b) d) : NestedIs s.heap (keyOf d) (.ref b) := nested_of I d _ (.ref b) m h rfl
theorem op_inN (hu : X.A.units + 64 < cLine) : OpR X (compareOp .In) (rInN X.w X.K false) := by
  intro pins s σ H x y v u Q I rx ry q
  obtain ⟨a, b, kvs, d, rfl, rfl, e, k, m, sf, hd, q⟩ := q
  cases rx
  cases ry
  obtain ⟨z, hs, xs, r, dd⟩ := dct_of I e k
  have e2 := (r.val (k := keyOf d)).isSome_eq
  rw [Option.isSome_map] at e2
  rw [if_neg Bool.false_ne_true, e2] at q
  rcases sf with ⟨s1, s2⟩ | ⟨s1, s2⟩
  · exact wpAny_in_heap (knd := nestedKind X.prog X.w) (show X.A.in1.units + 8 < cLine by simp only [Around.in1_units]; omega) ⟨key_is I m hd, s1⟩ hs (dct_small dd r s2) ⟨.bl _, H, I.tok _, rfl, q⟩
  · exact in_U (by simp only [Around.in1_units]; omega) (key_is I m hd) hs dd (uni_of r s2) ⟨.bl _, H, I.tok _, rfl, q⟩
theorem op_notInN (hu : X.A.units + 64 < cLine) : OpR X (compareOp .NotIn) (rInN X.w X.K true) := by
  intro pins s σ H x y v u Q I rx ry q
  obtain ⟨a, b, kvs, d, rfl, rfl, e, k, m, sf, hd, q⟩ := q
  cases rx
  cases ry
  obtain ⟨z, hs, xs, r, dd⟩ := dct_of I e k
  have e2 := (r.val (k := keyOf d)).isSome_eq
  rw [Option.isSome_map] at e2
  rw [if_pos rfl, e2] at q
  rcases sf with ⟨s1, s2⟩ | ⟨s1, s2⟩
  · exact wpAny_notIn_heap (knd := nestedKind X.prog X.w) (show X.A.in1.units + 8 < cLine by simp only [Around.in1_units]; omega) ⟨key_is I m hd, s1⟩ hs (dct_small dd r s2) ⟨.bl _, H, I.tok _, rfl, q⟩
  · exact notIn_U (by simp only [Around.in1_units]; omega) (key_is I m hd) hs dd (uni_of r s2) ⟨.bl _, H, I.tok _, rfl, q⟩
theorem ix_N (hu : X.A.units + 64 < cLine) : IxR X (rIxN X.w X.K) := by
  intro value slice pins s σ H x y v u Q I rx ry q hs
  obtain ⟨a, b, kvs, d, v, rfl, rfl, e, k, m, sf, hd, ev, q⟩ := q
  cases rx
  cases ry
  obtain ⟨z, hs', xs, r, dd⟩ := dct_of I e k
  obtain ⟨w', hw, rw'⟩ := RelO.some_of (v := v) (o := (atKey xs (keyOf d)).map (·.2)) (by rw [← ev]; exact r.val)
  obtain ⟨p, hp, hp2⟩ := Option.map_eq_some_iff.mp hw
  refine tail_any dd.ty PySem.F.slot_dict_getitem.lookup ?_ hs
  rcases sf with ⟨s1, s2⟩ | ⟨s1, s2⟩
  · refine wpAny_getItem_heap (knd := nestedKind X.prog X.w) (show X.A.in1.units + 8 < cLine by simp only [Around.in1_units]; omega) ⟨key_is I m hd, s1⟩ (dct_small dd r s2) hp ?_
    rw [hp2]
    exact ⟨v, H, I.tok _, rw', q⟩
  · refine item_U (by simp only [Around.in1_units]; omega) (key_is I m hd) dd (uni_of r s2) hp ?_
    rw [hp2]
    exact ⟨v, H, I.tok _, rw', q⟩
theorem set_N (hu : X.A.units + 64 < cLine) : PSet X (rSetN X.w X.K) := by
  intro pins s σ H x y v ov iv u Q I rx ry rv q
  obtain ⟨a, b, kvs, d, rfl, rfl, e, k, hz, m, sf, hd, q⟩ := q
  cases rx
  cases ry
  obtain ⟨z, hs, xs, r, dd⟩ := dct_of I e k
  have put : ∀ h', (∃ o es ep, h'.get? a = some o ∧ o.ExactDict ∧ o.data = .dict es ep ∧ es.toList = (storedH xs (keyOf d) b u).map (entW X.w)) → Heap.SameBut a s.heap h' → ∀ tk, Inv X pins σ (upd H a (dctO X.w a (putN kvs (keyOf d) b v))) { s with heap := h', toks := tk } := fun h' ⟨o, es, ep, h1, h2, h3, h4⟩ sb tk =>
    d_write I (by rw [e]; exact True.intro) sb ⟨o, h1⟩ (dct_ok ⟨Nat.le_trans (putN_len ..) hz, hs, _, r.put rv, o, es, ep, h1, h2, h3, h4⟩)
  rcases sf with ⟨s1, s2⟩ | ⟨s1, s2⟩
  · refine wpAny_setItem_heap (knd := nestedKind X.prog X.w) (hsz := by rw [r.len]; exact z) (show X.A.in1.units + 8 < cLine by simp only [Around.in1_units]; omega) ⟨key_is I m hd, s1⟩ (dct_small dd r s2) fun h' dd' sb => ⟨_, ?_, q⟩
    obtain ⟨o, es, ep, h1, h2, h3, h4, _, _⟩ := dd'
    exact put h' ⟨o, es, ep, h1, h2, h3, h4⟩ sb _
  · refine put_U (by simp only [Around.in1_units]; omega) (key_is I m hd) dd (uni_of r s2) (by rw [r.len]; exact z) fun h' dd' sb => ⟨_, ?_, q⟩
    obtain ⟨o, es, ep, h1, h2, h3, h4, _, _⟩ := dd'
    exact put h' ⟨o, es, ep, h1, h2, h3, h4⟩ sb _
def tDNewN (w : World) : TE := fun _ H Q => ∀ p, H p = none → Q (.ref p) (upd H p (dctO w p []))
theorem pe_dnewN {pos : Pos} : PE X (.Dict [] [] pos) (tDNewN X.w) := ⟨fun pins s σ H Q I h =>
  wpAny_Dict_empty ⟨.ref s.heap.objs.size, _, I.laid (a := s.heap.objs.size) (o := dctO X.w s.heap.objs.size []) (t' := s.toks) (fun _ _ q => Heap.get?_push_of_some _ q) (Nat.le_refl _)
    (dct_ok ⟨Nat.zero_le _, beq_eq_false_iff_ne.mpr (Ne.symm (Nat.ne_of_lt I.big)), [], .nil, _, #[], 0, Heap.get?_push_size _ rfl, ⟨rfl, rfl, rfl⟩, rfl, rfl⟩), rfl, h _ (I.hok.fresh (Nat.le_refl _))⟩⟩
end
section
variable (K : PySem.W.Frag) (w : World) {X : Cx} (h : X.K = K) (hw : X.w = w)
include h hw
theorem op_inNK (hu : X.A.units + 64 < cLine) : OpR X (compareOp .In) (rInN w K false) := h ▸ hw ▸ op_inN hu
theorem op_notInNK (hu : X.A.units + 64 < cLine) : OpR X (compareOp .NotIn) (rInN w K true) := h ▸ hw ▸ op_notInN hu
theorem ix_NK (hu : X.A.units + 64 < cLine) : IxR X (rIxN w K) := h ▸ hw ▸ ix_N hu
theorem set_NK (hu : X.A.units + 64 < cLine) : PSet X (rSetN w K) := h ▸ hw ▸ set_N hu
end
theorem pe_dnewNK (w : World) {X : Cx} (hw : X.w = w) {pos : Pos} : PE X (.Dict [] [] pos) (tDNewN w) := hw ▸ pe_dnewN
end LM

set_option Elab.async false
set_option linter.all false
set_option maxRecDepth 100000
set_option maxHeartbeats 1000000
/-! LmG: caches as cells: a dict that holds at each of its keys what a function tells. -/
namespace LM
open PySem PySem.Spec PyProof.Rows L2 Evl

/-- a family of keys -/
structure FamOk (w : World) (Fam : D → Prop) : Prop where
  im : ∀ d, Fam d → imm d = true
  dp : (∀ d, Fam d → (keyOf d).depth ≤ 8) ∨ ((∀ d, Fam d → (keyOf d).depth ≤ 40) ∧ ∀ d e, Fam d → Fam e → (keyOf d).hash w = (keyOf e).hash w → d = e)
  tp : ∀ d, Fam d → ∃ ds, d = .tuple ds
  inj : ∀ d e, Fam d → Fam e → keyOf d = keyOf e → d = e
  fin : ∃ L : List NestedKey, L.length < sizeLine ∧ ∀ d, Fam d → keyOf d ∈ L
def cchP (K : PySem.W.Frag) (w : World) (Fam : D → Prop) (F : D → D) (need : Option D) (a : Addr) (o : HO) (Hm : Hp) : Prop :=
  ∃ kvs : DK, o = dctO w a kvs ∧ (kvs.map (·.1)).Nodup ∧ (∀ p ∈ kvs, ∃ d, Fam d ∧ keyOf d = p.1 ∧ Dp K Hm (.ref p.2.1) d ∧ Dp K Hm p.2.2 (F d)) ∧ ∀ d, need = some d → keyOf d ∈ kvs.map (·.1)
def cch (K : PySem.W.Frag) (w : World) (Fam : D → Prop) (F : D → D) (need : Option D) : MO := .inv (cchP K w Fam F need) fun a o H H' e h => by
  obtain ⟨kvs, h1, h2, h3, h4⟩ := h
  refine ⟨kvs, h1, h2, fun p hp => ?_, h4⟩
  obtain ⟨d, k1, k2, k3, k4⟩ := h3 p hp
  exact ⟨d, k1, k2, k3.mono e, k4.mono e⟩
theorem nodup_len {α : Type} : ∀ {l m : List α}, l.Nodup → (∀ x ∈ l, x ∈ m) → l.length ≤ m.length
  | [], _, _, _ => Nat.zero_le _
  | x :: l, m, h, s => by
    rw [List.nodup_cons] at h
    obtain ⟨m1, m2, rfl⟩ := List.append_of_mem (s x List.mem_cons_self)
    have := nodup_len (l := l) (m := m1 ++ m2) h.2 fun y hy => by
      have e := s y (List.mem_cons_of_mem _ hy)
      rcases List.mem_append.mp e with e | e
      · exact List.mem_append_left _ e
      · rcases List.mem_cons.mp e with e | e
        · exact absurd (e ▸ hy) h.1
        · exact List.mem_append_right _ e
    simp only [List.length_append, List.length_cons] at this ⊢
    omega
section
variable {K : PySem.W.Frag} {w : World} {Fam : D → Prop} {F : D → D} {L0 : List Addr} {H0 Hm0 H Hm H2 Hm2 : Hp} {σ : L2.St} {ρ ρ1 : Rx} {α : List Addr} {μ μ1 μ2 : Mu} {E : Ends} {o : OutX} {t u : TS} {te tk td tv : TE} {k : D} {i j n : Nat} {nd : Option D}
theorem cch_len (fo : FamOk w Fam) {kvs : DK} (h1 : (kvs.map (·.1)).Nodup) (h2 : ∀ p ∈ kvs, ∃ d, Fam d ∧ keyOf d = p.1 ∧ Dp K Hm (.ref p.2.1) d ∧ Dp K Hm p.2.2 (F d)) : kvs.length < sizeLine := by
  obtain ⟨L, l1, l2⟩ := fo.fin
  have := nodup_len h1 (m := L) fun x hx => by
    obtain ⟨p, hp, rfl⟩ := List.mem_map.mp hx
    obtain ⟨d, k1, k2, _⟩ := h2 p hp
    rw [← k2]; exact l2 d k1
  rw [List.length_map] at this
  omega
theorem cch_keys (fo : FamOk w Fam) (s : Ex Hm H) {kvs : DK} (h1 : (kvs.map (·.1)).Nodup) (h2 : ∀ p ∈ kvs, ∃ d, Fam d ∧ keyOf d = p.1 ∧ Dp K Hm (.ref p.2.1) d ∧ Dp K Hm p.2.2 (F d)) : KeysOk K H kvs := by
  refine ⟨h1, fun p hp => ?_⟩
  obtain ⟨d, k1, k2, k3, _⟩ := h2 p hp
  exact ⟨d, fo.im d k1, k2, k3.mono s⟩
theorem cch_safe (fo : FamOk w Fam) {kvs : DK} (h2 : ∀ p ∈ kvs, ∃ d, Fam d ∧ keyOf d = p.1 ∧ Dp K Hm (.ref p.2.1) d ∧ Dp K Hm p.2.2 (F d)) (f : Fam k) : Safe w kvs (keyOf k) := by
  rcases fo.dp with h | ⟨h, u⟩
  · refine .inl ⟨h k f, fun p hp => ?_⟩
    obtain ⟨d, k1, k2, _⟩ := h2 p hp
    rw [← k2]; exact h d k1
  · refine .inr ⟨h k f, fun p hp e => ?_⟩
    obtain ⟨d, k1, k2, _⟩ := h2 p hp
    rw [← k2] at e ⊢
    rw [u d k k1 f e]
theorem dp_ref (fo : FamOk w Fam) {v : V} (f : Fam k) (h : Dp K Hm v k) : ∃ b : Addr, v = .ref b := by
  obtain ⟨ds, rfl⟩ := fo.tp k f
  cases h
  exact ⟨_, rfl⟩
theorem cch_le : MOle (cch K w Fam F nd) (cch K w Fam F none) := fun K' H Hm α a h => by
  obtain ⟨o, e, kvs, h1, h2, h3, h4⟩ := h
  exact ⟨o, e, kvs, h1, h2, h3, fun d z => by cases z⟩
theorem le_cch (hm : μ[n]? = some (cch K w Fam F none)) : MuLe (μ.set n (cch K w Fam F nd)) μ := by
  refine ⟨by rw [List.length_set], fun j m m' h1 h2 => ?_⟩
  rcases set_get h1 with ⟨rfl, rfl, _⟩ | ⟨hne, h3⟩
  · rw [hm] at h2
    cases h2
    exact cch_le
  · rw [h2] at h3
    cases h3
    exact MOle.refl m
/-- {} -/
theorem ex_newN : EX K (tDNewN w) ρ μ (.o μ.length) (μ ++ [cch K w Fam F none]) := fun σ H Hm α s l hs S Q q => fun p hp =>
  q (.ref p) _ Hm (α ++ [p]) (Aft.new s S hp ⟨dctO w p [], upd_same, [], rfl, List.nodup_nil, fun p h => (nomatch h), fun d z => by cases z⟩) ⟨p, by rw [← S.len]; simp, rfl⟩
/-- the cell is told anew, nothing changed -/
theorem Sto.re {a : Addr} {m : MO} (S : Sto K H Hm α μ) (ha : α[n]? = some a) (hm : MOk K H Hm α a m) : Sto K H Hm α (μ.set n m) := by
  refine ⟨by rw [List.length_set]; exact S.len, S.nd, S.hm, fun j b m' h1 h2 => ?_⟩
  rcases set_get h2 with ⟨rfl, rfl, _⟩ | ⟨hne, h3⟩
  · rw [ha] at h1
    cases h1
    exact hm
  · exact S.ok j b m' h1 h3
theorem set_self {m : MO} (h : μ[n]? = some m) : μ.set n m = μ := by
  apply List.ext_getElem?
  intro j
  by_cases e : n = j
  · subst e
    have l := (List.getElem?_eq_some_iff.mp h).1
    rw [List.getElem?_set_self l, h]
  · rw [List.getElem?_set_ne e]
/-- if k not in d: .. -/
theorem xm_unless (fo : FamOk w Fam) (hk : EX K tk ρ μ (.d k) μ) (hd : EX K td ρ μ (.o n) μ) (hm : μ[n]? = some (cch K w Fam F none)) (fk : Fam k) (body : XM K t ρ μ (.nx ρ (μ.set n (cch K w Fam F (some k))))) :
    XM K (tIfS (tTest (tOp (rInN w K true) tk td)) t tNext) ρ μ (.nx ρ (μ.set n (cch K w Fam F (some k)))) := fun L0 H0 Hm0 E σ H Hm α S f =>
  hk σ H Hm α S.gr.sub S.len S.sd S.sto _ fun y H1 Hm1 α1 A1 hy => by
    have S1 := S.aft A1
    refine hd σ H1 Hm1 α1 S1.gr.sub S1.len S1.sd S1.sto _ fun x H2 Hm2 α2 A2 hx => ?_
    have S2 := S1.aft A2
    obtain ⟨a, ha, rfl⟩ := hx
    have hy2 : Dp K Hm2 y k := Dp.mono (show Dp K Hm1 y k from hy) A2.gr.em
    obtain ⟨b, rfl⟩ := dp_ref fo fk hy2
    obtain ⟨o, e1, kvs, e2, n1, n2, _⟩ := (show MOk K H2 Hm2 α2 a (cch K w Fam F none) from S2.sto.ok n a _ ha hm)
    subst e2
    refine ⟨a, b, kvs, k, rfl, rfl, e1, cch_keys fo S2.gr.sub n1 n2, fo.im k fk, cch_safe fo n2 fk, hy2.mono S2.gr.sub, _, rfl, ?_⟩
    have f2 := (f.mono A1.gr.em A1.pre).mono A2.gr.em A2.pre
    rw [if_pos rfl]
    cases c : (valN kvs (keyOf k)).isSome with
    | false => exact body L0 H0 Hm0 E σ H2 Hm2 α2 S2 f2
    | true =>
      refine f2 σ H2 Hm2 α2 (Ex.refl _) (List.prefix_refl _) ⟨S2.gr, S2.len, S2.sd, S2.sto.re ha ⟨_, e1, kvs, rfl, n1, n2, fun d z => ?_⟩, S2.fr⟩
      cases z
      obtain ⟨p, h1, h2, _⟩ := valN_some c
      exact List.mem_map.mpr ⟨p, h1, h2⟩
/-- d[k] = F k -/
theorem xm_known (fo : FamOk w Fam) (hv : EX K tv ρ μ (.d (F k)) μ) (hd : EX K td ρ μ (.o n) μ) (hk : EX K tk ρ μ (.d k) μ) (hm : μ[n]? = some (cch K w Fam F none)) (fk : Fam k) :
    XM K (tAsg tv (gSub td tk (rSetN w K))) ρ μ (.nx ρ (μ.set n (cch K w Fam F (some k)))) := fun L0 H0 Hm0 E σ H Hm α S f =>
  hv σ H Hm α S.gr.sub S.len S.sd S.sto _ fun v H1 Hm1 α1 A1 hv1 => by
    have S1 := S.aft A1
    refine hd σ H1 Hm1 α1 S1.gr.sub S1.len S1.sd S1.sto _ fun x H2 Hm2 α2 A2 hx => ?_
    have S2 := S1.aft A2
    refine hk σ H2 Hm2 α2 S2.gr.sub S2.len S2.sd S2.sto _ fun y H3 Hm3 α3 A3 hy => ?_
    have S3 := S2.aft A3
    obtain ⟨a, ha, rfl⟩ := hx.mono A3.gr.em A3.pre
    have hv3 : Dp K Hm3 v (F k) := Dp.mono (Dp.mono (show Dp K Hm1 v (F k) from hv1) A2.gr.em) A3.gr.em
    obtain ⟨b, rfl⟩ := dp_ref fo fk (show Dp K Hm3 y k from hy)
    obtain ⟨o, e1, kvs, e2, n1, n2, _⟩ := (show MOk K H3 Hm3 α3 a (cch K w Fam F none) from S3.sto.ok n a _ ha hm)
    subst e2
    refine ⟨a, b, kvs, k, rfl, rfl, e1, cch_keys fo S3.gr.sub n1 n2, cch_len fo n1 n2, fo.im k fk, cch_safe fo n2 fk, (show Dp K Hm3 (.ref b) k from hy).mono S3.gr.sub, ?_⟩
    have A4 : Aft K α3 H3 Hm3 (μ.set n (cch K w Fam F (some k))) α3 (upd H3 a (dctO w a (putN kvs (keyOf k) b v))) Hm3 := Aft.put S3.gr.sub S3.sto ha ⟨_, upd_same, _, rfl, putN_nodup n1, fun p hp => ?_, fun d z => ?_⟩
    · have f3 := ((f.mono A1.gr.em A1.pre).mono A2.gr.em A2.pre).mono A3.gr.em A3.pre
      exact f3 σ _ Hm3 α3 (Ex.refl _) (List.prefix_refl _) (S3.aft A4)
    · rcases putN_mem hp with h | ⟨h1, h2, h3⟩
      · exact n2 p h
      · refine ⟨k, fk, h1.symm, ?_, by rw [h2]; exact hv3⟩
        rcases h3 with h3 | ⟨q, hq, q1, q2⟩
        · rw [h3]; exact hy
        · obtain ⟨d, k1, k2, k3, _⟩ := n2 q hq
          rw [← q2, ← fo.inj d k k1 fk (k2.trans q1)]
          exact k3
    · cases z
      exact putN_has
/-- d[k], known -/
theorem ex_known (fo : FamOk w Fam) (hd : EX K td ρ μ (.o n) μ) (hk : EX K tk ρ μ (.d k) μ) (hm : μ[n]? = some (cch K w Fam F (some k))) (fk : Fam k) : EX K (tOp (rIxN w K) td tk) ρ μ (.d (F k)) μ := fun σ H Hm α s l hs S Q q =>
  hd σ H Hm α s l hs S _ fun x H1 Hm1 α1 A1 hx => by
    refine hk σ H1 Hm1 α1 A1.gr.sub l (hs.aft A1) A1.sto _ fun y H2 Hm2 α2 A2 hy => ?_
    obtain ⟨a, ha, rfl⟩ := hx.mono A2.gr.em A2.pre
    obtain ⟨b, rfl⟩ := dp_ref fo fk (show Dp K Hm2 y k from hy)
    obtain ⟨o, e1, kvs, e2, n1, n2, n3⟩ := (show MOk K H2 Hm2 α2 a (cch K w Fam F (some k)) from A2.sto.ok n a _ ha hm)
    subst e2
    obtain ⟨p, h1, h2, h3⟩ := valN_some (valN_of (n3 k rfl))
    obtain ⟨d, k1, k2, _, k4⟩ := n2 p h1
    have e := fo.inj d k k1 fk (k2.trans h2)
    rw [e] at k4
    exact ⟨a, b, kvs, k, p.2.2, rfl, rfl, e1, cch_keys fo A2.gr.sub n1 n2, fo.im k fk, cch_safe fo n2 fk, (show Dp K Hm2 (.ref b) k from hy).mono A2.gr.sub, h3, q p.2.2 H2 Hm2 α2 (A1.trans A2) k4⟩
/-- xs.pop(0) -/
theorem ex_pop0 {d : D} {ds : List D} (hi : ρ[i]? = some (some (.o n))) (hm : μ[n]? = some (.lst (d :: ds))) (h : EX K te ρ μ (.d (.int 0)) μ) : EX K (tBM K "list" rPopAt (tVar i) (tCons te tNil)) ρ μ (.d d) (μ.set n (.lst ds)) := fun σ H Hm α s l hs S Q q => by
  obtain ⟨v, h1, a, ha, rfl⟩ := hs i _ hi
  obtain ⟨vs, k1, k2⟩ := S.ok n a _ ha hm
  refine ⟨.ref a, h1, .inl ⟨rfl, vs, .inl (.inl k1)⟩, ?_⟩
  refine h σ H Hm α s l hs S _ fun v H2 Hm2 α2 A hv => ?_
  have ha2 := pre_get A.pre ha
  obtain ⟨ws, k3, k4⟩ := A.sto.ok n a _ ha2 hm
  cases k4 with
  | @cons y ys _ _ k5 k6 =>
    cases (show Dp K Hm2 v (.int 0) from hv)
    refine ⟨a, y :: ys, 0, 0, y, rfl, rfl, k3, by decide, by decide, ?_, rfl, ?_⟩
    · unfold seqIndex?
      rw [List.length_cons]
      simp
    · have B := A.trans (Aft.put A.gr.sub A.sto (o := .lst ys) (m := .lst ds) ha2 ⟨ys, upd_same, k6⟩)
      exact q y _ Hm2 α2 B k5
end
section
variable {K : PySem.W.Frag} {μ : Mu} {n : Nat}
theorem seenN {μ : Mu} {m : MO} (n : Nat) (h : μ[n]? = some m) (c : renM [n] μ.length m = m) (hc : clM 1 m = true) : seen [n] μ [m] := by
  refine ⟨rfl, fun j m' hj => ?_⟩
  cases j with
  | succ j => simp at hj
  | zero =>
    cases hj
    rw [c]
    refine ⟨h, ?_⟩
    show (([m] : Mu).take 1).all (clM 1) = true
    simp [hc]
theorem back1 {m' : MO} (hn : n < μ.length) (hc : renM [n] μ.length m' = m') : back [n] μ [m'] = μ.set n m' := by
  unfold back
  have e2 : (([m'] : Mu).drop ([n] : List Nat).length).map (renM [n] μ.length) = [] := rfl
  rw [e2, List.append_nil]
  refine List.ext_getElem? fun k => ?_
  rw [List.getElem?_set]
  by_cases hk : k < μ.length
  · rw [List.getElem?_map, List.getElem?_range hk]
    simp only [Option.map_some]
    by_cases e : n = k
    · subst e
      rw [if_pos rfl, if_pos hk]
      have : posN n [n] = some 0 := by unfold posN; rw [if_pos rfl]
      rw [this]
      show some (renM [n] μ.length m') = _
      rw [hc]
    · rw [if_neg e]
      have : posN k [n] = none := by unfold posN; rw [if_neg e]; rfl
      rw [this]
      show some (μ.getD k (.lst [])) = μ[k]?
      rw [List.getD_eq_getElem?_getD, List.getElem?_eq_getElem hk]; rfl
  · rw [List.getElem?_eq_none (by rw [List.length_map, List.length_range]; omega), if_neg (by omega), List.getElem?_eq_none (by omega)]
end
section
variable {K : PySem.W.Frag} {ρ : Rx} {μ μ1 : Mu} {tl te : TE} {j : Nat} {l : List T} {p : T → Bool}
theorem bools_of {l : List T} {p : T → Bool} {f : D → D} (hf : ∀ t : T, f t.data = .bool (p t)) : (l.map T.data).map f = (l.map p).map PyData.bool := by
  rw [List.map_map, List.map_map]
  exact List.map_congr_left fun t _ => hf t
/-- any([.. for t in trees]) -/
theorem ex_anyT (hsrc : EX K tl ρ μ (.d (.tuple (l.map T.data))) μ1) (he : ∀ t ∈ l, EX K te ((wipeX ρ [j]).set j (some (.d t.data))) μ1 (.d (.bool (p t))) μ1) (hz : l.length ≤ 50000 := by omega) :
    EX K (tCB (rAny K) (tCons (tLc (iTup K tl) (gName j) tYes te [j]) tNil)) ρ μ (.d (.bool (l.any p))) μ1 := by
  have h := ex_mapT (K := K) (te := te) (j := j) (fun d => .bool (p (ofD d))) hsrc (fun d hd => by
    obtain ⟨t, ht, rfl⟩ := List.mem_map.mp hd
    rw [ofD_data]
    exact he t ht) (by rw [List.length_map]; exact hz)
  refine ex_is (ex_cb (ds := [_]) (exs_cons h exs_nil) (cd_any (bs := l.map p) (bools_of fun t => by rw [ofD_data]))) ?_
  rw [List.any_map]
  rfl
theorem ex_anyL (hsrc : EX K tl ρ μ (.d (.list (l.map T.data))) μ1) (he : ∀ t ∈ l, EX K te ((wipeX ρ [j]).set j (some (.d t.data))) μ1 (.d (.bool (p t))) μ1) (hz : l.length ≤ 50000 := by omega) :
    EX K (tCB (rAny K) (tCons (tLc (iList K tl) (gName j) tYes te [j]) tNil)) ρ μ (.d (.bool (l.any p))) μ1 := by
  have h := ex_mapL (K := K) (te := te) (j := j) (fun d => .bool (p (ofD d))) hsrc (fun d hd => by
    obtain ⟨t, ht, rfl⟩ := List.mem_map.mp hd
    rw [ofD_data]
    exact he t ht) (by rw [List.length_map]; exact hz)
  refine ex_is (ex_cb (ds := [_]) (exs_cons h exs_nil) (cd_any (bs := l.map p) (bools_of fun t => by rw [ofD_data]))) ?_
  rw [List.any_map]
  rfl
end
/-! ### a def that gives away a list of its own -/
def EndsL (K : PySem.W.Frag) (t : TS) (ρ : Rx) (μ : Mu) (r : SV) (μ' : Mu) : Prop := ∃ ds, r = .d (.list ds) ∧ XM K t ρ μ (.rt (.o μ'.length) (μ' ++ [.lst ds])) ∧ cl μ'.length μ' = true ∧ μ.length ≤ μ'.length
section
variable {P : Program} {w : World} {K : PySem.W.Frag} {mg : Str → Option Value} {base : Heap} {x : Str} {st : Stmt} {f : Addr} {fd : FuncData} {N ps : List Str} {k : Nat}
theorem fn_ofML {q : Str} {R : List SV → Mu → SV → Mu → Prop} (F : Fun K x q st f fd) (S : FnScope N ps (defScope st)) (hN : ps.length ≤ N.length)
    (len : ∀ xs μ r μ', R xs μ r μ' → xs.length = ps.length)
    (hbody : ∀ (cdv : Value) (A : Around) (outer : List Env) (s : Shared) (H : Hp) (E : XK), Room k (A.deeper (envOfC q (defScope st) s.heap.objs.size f cdv)) →
      ∃ t, PSs (cxOf CX0 P w K mg base N q (defScope st) f cdv A outer s H E).nox (defBody st) t ∧ ∀ xs μ r μ', R xs μ r μ' → EndsL K t (startX N xs) μ r μ') : FnOk P w K mg base CX0 (k + 1) f fd ps (SpM K R) := by
  refine F.ok S (fun vs H Q E h => ?_) (fun cdv A outer s H vs Q E hr h => ?_)
  · obtain ⟨xs, μ, r, μ', Hm, α, _, hd, _, hR, _⟩ := h
    rw [hd.len, len xs μ r μ' hR]
  · obtain ⟨t, h1, h2⟩ := hbody cdv A outer s H E hr
    refine ⟨t, h1, ?_⟩
    obtain ⟨xs, μ, r, μ', Hm, α, s1, hd, hS, hR, hq⟩ := h
    have hl := len xs μ r μ' hR
    obtain ⟨ds, rfl, h3, hcl, hle⟩ := h2 xs μ r μ' hR
    have S0 : SM K α H Hm H Hm (L2.start N vs) (startX N xs) α μ := by
      refine ⟨GrS.refl s1, ?_, start_of hd, hS, fun a ha => .inl ha⟩
      rw [startX_len (by omega)]
      have := hd.len
      unfold L2.start
      rw [List.length_append, List.length_map, List.length_replicate]
      omega
    refine h3 α H Hm _ (L2.start N vs) H Hm α S0 fun v H' Hm' α' p g S fr hv => ?_
    obtain ⟨a, ha, rfl⟩ := hv
    have lα : α.length ≤ μ'.length := by rw [hS.len]; exact hle
    have l' : α'.length = μ'.length + 1 := by rw [S.len, List.length_append]; rfl
    have St := S.take μ'.length (cl_ok (by
      show ((μ' ++ [MO.lst ds]).take μ'.length).all (clM μ'.length) = true
      rw [List.take_left]
      have h := hcl
      unfold cl at h
      rwa [List.take_length] at h))
    rw [List.take_left] at St
    have na : a ∉ α'.take μ'.length := fun hm => by
      obtain ⟨j, hj⟩ := List.mem_iff_getElem?.mp hm
      have lj := (List.getElem?_eq_some_iff.mp hj).1
      rw [List.length_take] at lj
      rw [List.getElem?_take_of_lt (by omega)] at hj
      have := S.inj hj ha
      omega
    have hn : H a = none := by
      refine (fr a (List.mem_of_getElem? ha)).resolve_left fun hm => na ?_
      obtain ⟨j, hj⟩ := List.mem_iff_getElem?.mp hm
      have lj := (List.getElem?_eq_some_iff.mp hj).1
      exact List.mem_of_getElem? (i := j) (by rw [List.getElem?_take_of_lt (by omega)]; exact pre_get p hj)
    have hm := S.hm a (List.mem_of_getElem? ha)
    obtain ⟨vs', k1, k2⟩ := S.ok μ'.length a (.lst ds) ha (by simp)
    have A0 : Aft K α H Hm μ' (α'.take μ'.length) H' Hm' := ⟨pre_cut p lα, fun b hb n => (fr b (List.mem_of_mem_take hb)).resolve_left n, g, St⟩
    have A1 := A0.show hn hm na k1
    refine hq (.ref a) H' _ _ A1 ?_
    have e : Ex Hm' (upd Hm' a (.lst vs')) := fun b o h => by
      have : b ≠ a := fun z => by rw [z, hm] at h; cases h
      rw [upd_ne this]; exact h
    exact Dp.lst (SqL.of upd_same) (k2.mono e)
end
end LM

set_option Elab.async false
set_option linter.all false
set_option maxRecDepth 100000
set_option maxHeartbeats 1000000
/-! LmR: repr of nested tuples. A def that calls it has to know that no repr is under way around it: promises with that in front. -/
namespace LM
open PySem PySem.Spec PyProof.Rows L2 Evl

/-- no repr is under way -/
abbrev Gd (A : Around) : Prop := A.guards = some []
structure FnG (P : Program) (w : World) (K : PySem.W.Frag) (mg : Str → Option Value) (base : Heap) (k : Nat) (f : Addr) (fd : FuncData) (ps : List Str) (sp : Sp) : Prop where
  len : ∀ vs H Q E, sp vs H Q E → vs.length = ps.length
  run : ∀ (A : Around) (outer : List Env) (s : Shared) (H : Hp) (args : Args) (us : List Value) (vs : List V) (Q : VK) (E : XK), Gd A → Room k A → Env0 P w K mg base A outer s H → BindsTo s fd args (ps.zip us) → Vals vs us → sp vs H Q E →
    codeAny (model P w) A (.call (.ref f) args) (CR CX0 outer P w H s Q E) s
theorem FnG.mono {P : Program} {w : World} {K : PySem.W.Frag} {mg : Str → Option Value} {base : Heap} {j k : Nat} {f : Addr} {fd : FuncData} {ps : List Str} {sp : Sp} (F : FnG P w K mg base j f fd ps sp) (h : j ≤ k) : FnG P w K mg base k f fd ps sp :=
  ⟨F.len, fun A outer s H args us vs Q E g hr => F.run A outer s H args us vs Q E g (hr.mono h)⟩
theorem Gd.deeper {A : Around} (g : Gd A) (env : Env) : Gd (A.deeper env) := g
section
variable {P : Program} {w : World} {K : PySem.W.Frag} {mg : Str → Option Value} {base : Heap}
/-- a def by its body -/
theorem okG_fn {x qual : Str} {st : Stmt} {f : Addr} {fd : FuncData} {N ps : List Str} {k : Nat} {sp : Sp} (F : Fun K x qual st f fd) (S : FnScope N ps (defScope st)) (len : ∀ vs H Q E, sp vs H Q E → vs.length = ps.length)
    (hbody : ∀ (cdv : Value) (A : Around) (outer : List Env) (s : Shared) (H : Hp) (vs : List V) (Q : VK) (E : XK), Gd (A.deeper (envOfC qual (defScope st) s.heap.objs.size f cdv)) → Room k (A.deeper (envOfC qual (defScope st) s.heap.objs.size f cdv)) → sp vs H Q E →
      ∃ t, PSs (cxOf CX0 P w K mg base N qual (defScope st) f cdv A outer s H E).nox (defBody st) t ∧ t { nx := fun _ H' => Q .non H', rt := Q } (L2.start N vs) H) : FnG P w K mg base (k + 1) f fd ps sp := by
  obtain ⟨oc, od, kV, doc, pm, an, cdv, ct, osl, rfl, atf, code⟩ := F.ex
  refine ⟨len, fun A outer s H args us vs Q E gd room e bind rel want => ?_⟩
  have n := len _ _ _ _ want
  have inK : K.In s.heap := e.mod.kin.keeps fun b o h => (e.bs b o h).1
  have free : s.heap.NoLimit := e.mod.nolimit.keeps fun b o h => (e.bs b o h).1
  have kinds : ∀ y ∈ ps.zip us, (defScope st).names.lookup y.1 = some .local ∨ ((defScope st).names.lookup y.1 = some .cell ∧ ((cellsFrom (s.heap.objs.size + 1) (defScope st).names []).lookup y.1).isSome = true) := by
    rintro ⟨nm, v⟩ hy
    exact (S.par nm (List.of_mem_zip hy).1).imp id fun q => ⟨q, PySem.W.cellsFrom_some _ _ _ (.inl q)⟩
  refine codeAny_call_function room.depth (inK _ _ atf) rfl S.co S.gen rfl (PySem.W.codeRec_of inK code) (bind _ _ _ _ (wpAny_newFunctionEnv_cells S.kind kinds fun env he s1 x => ?_))
  subst he
  obtain ⟨t, ht, go⟩ := hbody cdv A outer s H vs Q E (gd.deeper _) (room.deeper _) want
  refine ⟨free.keeps x.toInCall.keep, codeAny_func (wpAny_mono (ht.nox.run [] s1 (L2.start N vs) H _ (inv_start S room.hd e n rel x) go) (fun fl s' hs => ?_) fun _ _ z => z)⟩
  have done : ∀ {σ' : L2.St} {H' : Hp} {v : V} {u : Value}, Inv (cxOf CX0 P w K mg base N qual (defScope st) f cdv A outer s H E) [] σ' H' s' → RelV v u → Q v H' → CE outer P w H s Q u s' := fun {σ' H' v u} J rv q => ⟨v, H', J.os, J.bare, J.base, J.hok, rv, q⟩
  cases fl with
  | ret u => obtain ⟨v, σ', H', J, rv, q⟩ := hs; exact done J rv q
  | next => obtain ⟨σ', H', J, q⟩ := hs; exact done (v := V.non) (u := Value.none) J rfl q
  | brk => obtain ⟨_, _, _, q⟩ := hs; exact q.elim
  | cont => obtain ⟨_, _, _, q⟩ := hs; exact q.elim
end
structure HasG (P : Program) (w : World) (K : PySem.W.Frag) (mg : Str → Option Value) (base : Heap) (k : Nat) (x : Str) (sp : Sp) : Prop where
  ex : ∃ f fd ps, FnG P w K mg base k f fd ps sp ∧ mg x = some (.ref f) ∧ PySem.W.keepIn K (.ref f) = true ∧ Binds K fd ps []
theorem HasG.mono {P : Program} {w : World} {K : PySem.W.Frag} {mg : Str → Option Value} {base : Heap} {j k : Nat} {x : Str} {sp : Sp} (h : HasG P w K mg base j x sp) (hk : j ≤ k) : HasG P w K mg base k x sp :=
  let ⟨f, fd, ps, F, a, b, c⟩ := h.ex
  ⟨f, fd, ps, F.mono hk, a, b, c⟩
section
variable {X : Cx} {k j : Nat} {x : Str} {sp : Sp} {e : Expr} {es : List Expr} {p pos : Pos} {t : TA}
/-- a call of such a def -/
theorem pe_hG (c : HasG X.prog X.w X.K X.mg X.base k x sp) (gd : Gd X.A) (hr : Room j X.A) (hk : k ≤ j) (hg : Gl X x) (ha : PA X (e :: es) t)
    (nd : (x == ("__debug__" : Str)) = false := by decide) (hs : starEach (e :: es) X.env = (false, eval e X.env) :: starEach es X.env := by rfl) (pl : (backTo pos (starEach es X.env)).any (·.1) = false := by rfl) :
    PE X (.Call (.Name x p) (e :: es) [] pos) (tCall sp [] E0 t) := by
  obtain ⟨f, fd, ps, F, at_, kp, b⟩ := c.ex
  refine ⟨fun pins s σ H Q J h => wpAny_Call_Name_kw (ld_glob J hg at_ (PySem.W.callWith_K (h₀ := X.base) J.ok.mod.kin kp (thn (ha.run pos pins s σ H _ J h) fun us s1 ⟨vs, H1, J1, r, q⟩ => ⟨J1.kIn, ?_⟩) hs pl) nd)⟩
  have q' : sp (vs ++ []) H1 Q E0 := q
  rw [List.append_nil] at q'
  have n : (us ++ []).length = ps.length := by rw [List.append_nil, ← r.length]; exact F.len _ _ _ _ q'
  have go := F.run X.A X.stack s1 H1 ⟨us, []⟩ us vs Q E0 gd (hr.mono hk) J1.env0 (by have := b s1 us J1.kIn n; rwa [List.append_nil] at this) r q'
  refine wpAny_call (codeAny_mono go fun res s' end_ => ?_)
  cases res with
  | error e => exact (show False from end_).elim
  | ok fl =>
    cases fl with
    | ret u => exact J1.after end_
    | next => exact (show False from end_).elim
    | brk => exact (show False from end_).elim
    | cont => exact (show False from end_).elim
end
section
variable {P : Program} {w : World} {K : PySem.W.Frag} {mg : Str → Option Value} {base : Heap} {x : Str} {st : Stmt} {f : Addr} {fd : FuncData} {N ps : List Str} {k : Nat}
theorem gn_ofM {q : Str} {R : List SV → Mu → SV → Mu → Prop} (F : Fun K x q st f fd) (S : FnScope N ps (defScope st)) (hN : ps.length ≤ N.length)
    (len : ∀ xs μ r μ', R xs μ r μ' → xs.length = ps.length)
    (hbody : ∀ (cdv : Value) (A : Around) (outer : List Env) (s : Shared) (H : Hp) (E : XK), Gd (A.deeper (envOfC q (defScope st) s.heap.objs.size f cdv)) → Room k (A.deeper (envOfC q (defScope st) s.heap.objs.size f cdv)) →
      ∃ t, PSs (cxOf CX0 P w K mg base N q (defScope st) f cdv A outer s H E).nox (defBody st) t ∧ ∀ xs μ r μ', R xs μ r μ' → Ends2 K t (startX N xs) μ r μ') : FnG P w K mg base (k + 1) f fd ps (SpM K R) := by
  refine okG_fn F S (fun vs H Q E h => ?_) (fun cdv A outer s H vs Q E gd hr h => ?_)
  · obtain ⟨xs, μ, r, μ', Hm, α, _, hd, _, hR, _⟩ := h
    rw [hd.len, len xs μ r μ' hR]
  · obtain ⟨t, h1, h2⟩ := hbody cdv A outer s H E gd hr
    refine ⟨t, h1, ?_⟩
    obtain ⟨xs, μ, r, μ', Hm, α, s1, hd, hS, hR, hq⟩ := h
    have hl := len xs μ r μ' hR
    have S0 : SM K α H Hm H Hm (L2.start N vs) (startX N xs) α μ := by
      refine ⟨GrS.refl s1, ?_, start_of hd, hS, fun a ha => .inl ha⟩
      rw [startX_len (by omega)]
      have := hd.len
      unfold L2.start
      rw [List.length_append, List.length_map, List.length_replicate]
      omega
    have aft : ∀ {H' Hm' α'}, α <+: α' → GrS α H Hm H' Hm' → Sto K H' Hm' α' μ' → (∀ a ∈ α', a ∈ α ∨ H a = none) → Aft K α H Hm μ' α' H' Hm' := fun p g S fr => ⟨p, fun a ha n => (fr a ha).resolve_left n, g, S⟩
    rcases h2 xs μ r μ' hR with h3 | ⟨rfl, ρ', h3⟩
    · exact h3 α H Hm _ (L2.start N vs) H Hm α S0 fun v H' Hm' α' p g S fr hv => hq v H' Hm' α' (aft p g S fr) hv
    · exact h3 α H Hm _ (L2.start N vs) H Hm α S0 fun σ' H' Hm' α' e p S => hq .non H' Hm' α' (aft p S.gr S.sto S.fr) Dp.non
theorem gn_ofP {q : Str} {R : List D → D → Prop} (F : Fun K x q st f fd) (S : FnScope N ps (defScope st)) (hN : ps.length ≤ N.length)
    (len : ∀ ds r, R ds r → ds.length = ps.length)
    (hbody : ∀ (cdv : Value) (A : Around) (outer : List Env) (s : Shared) (H : Hp) (E : XK), Gd (A.deeper (envOfC q (defScope st) s.heap.objs.size f cdv)) → Room k (A.deeper (envOfC q (defScope st) s.heap.objs.size f cdv)) →
      ∃ t, PSs (cxOf CX0 P w K mg base N q (defScope st) f cdv A outer s H E).nox (defBody st) t ∧ ∀ ds r, R ds r → ∃ μ', XM K t (startX N (ds.map .d)) [] (.rt (.d r) μ')) : FnG P w K mg base (k + 1) f fd ps (SpR K R) := by
  refine okG_fn F S (fun vs H Q E h => ?_) (fun cdv A outer s H vs Q E gd hr h => ?_)
  · obtain ⟨ds, r, Hm, _, hd, hR, _⟩ := h
    rw [hd.len, len ds r hR]
  · obtain ⟨t, h1, h2⟩ := hbody cdv A outer s H E gd hr
    refine ⟨t, h1, ?_⟩
    obtain ⟨ds, r, Hm, s1, hd, hR, hq⟩ := h
    have hl := len ds r hR
    obtain ⟨μ', h3⟩ := h2 ds r hR
    have S0 : SM K [] H Hm H Hm (L2.start N vs) (startX N (ds.map .d)) [] [] := by
      refine ⟨GrS.refl s1, ?_, start_of (DxAll.of hd), Sto.empty, fun a ha => by cases ha⟩
      rw [startX_len (by rw [List.length_map]; omega)]
      have := hd.len
      unfold L2.start
      rw [List.length_append, List.length_map, List.length_replicate]
      omega
    exact h3 [] H Hm _ (L2.start N vs) H Hm [] S0 fun v H' Hm' α' p g S fr hv => hq v H' Hm' ⟨fun a o h => g.ex a o (by simp) h, g.em, g.sub, g.own⟩ hv
end

/-! ### repr -/
section
variable {X : Cx}
def rRepr (K : PySem.W.Frag) : List V → Hp → VK → Prop := fun xs H Q => ∃ (a : Addr) (d : D), xs = [.ref a] ∧ Dp K H (.ref a) d ∧ d.showable = true ∧ d.hasDict = false ∧ d.depth ≤ 60 ∧ d.shown.length ≤ sizeLine ∧ Q (.str d.shown) H
theorem cr_repr (gd : Gd X.A) (hu : X.A.units + 64 < cLine) : CallR X (.builtin "repr") (rRepr X.K) := by
  intro pins s σ H xs us Q I r h
  obtain ⟨a, d, rfl, hd, h1, h2, h3, h4, q⟩ := h
  rw [Vals.ref1 r]
  obtain ⟨as, rd⟩ := Dp.reads I d (.ref a) (.ref a) hd rfl
  refine repr_of_reads' (h₀ := s.heap) rd h1 (fun z => by rw [h2] at z; cases z) gd (by omega) (fun _ _ e => e) (fun h' u tk hk => ?_) h4
  exact ⟨.str d.shown, H, I.un (Un.kept hk) (I.hok.kept hk), ⟨u, rfl⟩, q⟩
theorem cr_reprK (K : PySem.W.Frag) (h : X.K = K) (gd : Gd X.A) (hu : X.A.units + 64 < cLine) : CallR X (.builtin "repr") (rRepr K) := h ▸ cr_repr gd hu
end
theorem cd_repr {K : PySem.W.Frag} {d : D} (hd : ∃ ds, d = .tuple ds) (h1 : d.showable = true) (h2 : d.hasDict = false) (h3 : d.depth ≤ 60) (h4 : d.shown.length ≤ sizeLine) : CD K (rRepr K) [d] (.str d.shown) := fun H Hm xs s hx Q q => by
  obtain ⟨v, rfl, h⟩ := dps1 hx
  obtain ⟨ds, rfl⟩ := hd
  obtain ⟨a, ys, rfl, hs, ha⟩ := dp_tup h
  exact ⟨a, _, rfl, h.mono s, h1, h2, h3, h4, q _ H Hm (Gr.refl s) (.str _)⟩
end LM

set_option Elab.async false
set_option linter.all false
set_option maxRecDepth 100000
set_option maxHeartbeats 1000000
/-! LmQ: caches whose keys are texts, each the repr of data. -/
namespace LM
open PySem PySem.Spec PyProof.Rows L2 Evl

def rInS (neg : Bool) : R2 := fun y x H Q => ∃ a kvs z, x = .ref a ∧ y = .str z ∧ H a = some (.dK kvs) ∧ Q (.bl (if neg = true then !(valV kvs (.inr z)).isSome else (valV kvs (.inr z)).isSome)) H
def rIxS' : R2 := fun x y H Q => ∃ a kvs z v, x = .ref a ∧ y = .str z ∧ H a = some (.dK kvs) ∧ valV kvs (.inr z) = some v ∧ Q v H
def rSetS : TSet := fun x y v H Q => ∃ a kvs z, x = .ref a ∧ y = .str z ∧ H a = some (.dK kvs) ∧ kvs.length < sizeLine ∧ Q (upd H a (.dK (putK kvs (.inr z) v)))
section
variable {X : Cx}
theorem op_notInS (hu : X.A.units + 1 < cLine) : OpR X (compareOp .NotIn) (rInS true) := by
  intro pins s σ H y x v u Q I ry rx h
  obtain ⟨a, kvs, z, rfl, rfl, e, q⟩ := h
  cases rx
  rw [if_pos rfl] at q
  exact d_notIn hu I (DGet.k (k := .inr z) e) ry fun s' J => ⟨.bl _, H, J, rfl, q⟩
theorem ix_S (hu : X.A.units + 1 < cLine) : IxR X rIxS' := by
  intro value slice pins s σ H x y v u Q I rx ry h hs
  obtain ⟨a, kvs, z, v0, rfl, rfl, e, ev, q⟩ := h
  cases rx
  have g : DGet H a (kV (.inr z)) (some v0) := by rw [← ev]; exact DGet.k e
  exact tail_any (dict_typeIs I g) PySem.F.slot_dict_getitem.lookup (d_getItem hu I g ry fun w' s' J rw' => ⟨v0, H, J, rw', q⟩) hs
theorem set_S (hu : X.A.units + 1 < cLine) : PSet X rSetS := by
  intro pins s σ H x y v ov iv u Q I rx ry rv h
  obtain ⟨a, kvs, z, rfl, rfl, e, l, q⟩ := h
  cases rx
  exact d_setItem hu I (DPut.k (k := .inr z) e l) ry rv fun s' J => ⟨_, J, q⟩
end
/-- keys that are told by their texts -/
structure FamS (Fam : D → Prop) : Prop where
  inj : ∀ d e, Fam d → Fam e → d.shown = e.shown → d = e
  fin : ∃ L : List D, L.length < sizeLine ∧ ∀ d, Fam d → d ∈ L
def csP (K : PySem.W.Frag) (Fam : D → Prop) (F : D → D) (need : Option D) (a : Addr) (o : HO) (Hm : Hp) : Prop :=
  ∃ kvs : List (Key × V), o = .dK kvs ∧ (kvs.map (·.1)).Nodup ∧ (∀ p ∈ kvs, ∃ d, Fam d ∧ p.1 = .inr d.shown ∧ Dp K Hm p.2 (F d)) ∧ ∀ d, need = some d → Sum.inr d.shown ∈ kvs.map (·.1)
def cs (K : PySem.W.Frag) (Fam : D → Prop) (F : D → D) (need : Option D) : MO := .inv (csP K Fam F need) fun a o H H' e h => by
  obtain ⟨kvs, h1, h2, h3, h4⟩ := h
  refine ⟨kvs, h1, h2, fun p hp => ?_, h4⟩
  obtain ⟨d, k1, k2, k3⟩ := h3 p hp
  exact ⟨d, k1, k2, k3.mono e⟩
section
variable {κ : Type} [DecidableEq κ]
theorem valV_yes {k : κ} : ∀ {kvs : List (κ × V)}, (valV kvs k).isSome = true → ∃ p ∈ kvs, p.1 = k ∧ valV kvs k = some p.2
  | [], e => by cases e
  | p :: ps, e => by
    by_cases q : p.1 = k
    · exact ⟨p, List.mem_cons_self, q, valV_pos q⟩
    · rw [valV_neg q] at e
      obtain ⟨p', h1, h2, h3⟩ := valV_yes e
      exact ⟨p', List.mem_cons_of_mem _ h1, h2, (valV_neg q).trans h3⟩
theorem valV_no {k : κ} : ∀ {kvs : List (κ × V)}, (valV kvs k).isSome = false → k ∉ kvs.map (·.1)
  | [], _, h => nomatch h
  | p :: ps, e, h => by
    by_cases q : p.1 = k
    · rw [valV_pos q] at e; cases e
    · rw [valV_neg q] at e
      rw [List.map_cons] at h
      rcases List.mem_cons.mp h with z | z
      · exact q z.symm
      · exact valV_no e z
theorem valV_of {k : κ} {kvs : List (κ × V)} (h : k ∈ kvs.map (·.1)) : (valV kvs k).isSome = true := by
  cases e : (valV kvs k).isSome with
  | true => rfl
  | false => exact absurd h (valV_no e)
theorem putK_keys (kvs : List (κ × V)) (k : κ) (v : V) : (putK kvs k v).map (·.1) = if (valV kvs k).isSome = true then kvs.map (·.1) else kvs.map (·.1) ++ [k] := by
  unfold putK
  rw [valV_any]
  split
  · rw [List.map_map]
    refine List.map_congr_left fun p _ => ?_
    show (if p.1 = k then (p.1, v) else p).1 = p.1
    split <;> rfl
  · rw [List.map_append]; rfl
theorem putK_mem {kvs : List (κ × V)} {k : κ} {v : V} {p : κ × V} (h : p ∈ putK kvs k v) : p ∈ kvs ∨ (p.1 = k ∧ p.2 = v) := by
  unfold putK at h
  split at h
  · obtain ⟨q, hq, rfl⟩ := List.mem_map.mp h
    by_cases e : q.1 = k
    · rw [if_pos e]; exact .inr ⟨e, rfl⟩
    · rw [if_neg e]; exact .inl hq
  · rcases List.mem_append.mp h with h | h
    · exact .inl h
    · rw [List.mem_singleton.mp h]; exact .inr ⟨rfl, rfl⟩
theorem putK_nodup {kvs : List (κ × V)} {k : κ} {v : V} (h : (kvs.map (·.1)).Nodup) : ((putK kvs k v).map (·.1)).Nodup := by
  rw [putK_keys]
  split
  · exact h
  · rename_i e
    rw [List.nodup_append]
    refine ⟨h, by simp, fun x hx y hy z => ?_⟩
    rw [List.mem_singleton.mp hy] at z
    exact valV_no (by simpa using e) (z ▸ hx)
theorem putK_has {kvs : List (κ × V)} {k : κ} {v : V} : k ∈ (putK kvs k v).map (·.1) := by
  rw [putK_keys]
  split
  · rename_i e
    obtain ⟨p, h1, h2, _⟩ := valV_yes e
    exact List.mem_map.mpr ⟨p, h1, h2⟩
  · exact List.mem_append_right _ (List.mem_singleton.mpr rfl)
end
section
variable {K : PySem.W.Frag} {Fam : D → Prop} {F : D → D} {H Hm : Hp} {ρ : Rx} {μ μ1 : Mu} {t : TS} {tk td tv : TE} {k : D} {n : Nat} {nd : Option D} {z : Str}
theorem cs_len (fo : FamS Fam) {kvs : List (Key × V)} (h1 : (kvs.map (·.1)).Nodup) (h2 : ∀ p ∈ kvs, ∃ d, Fam d ∧ p.1 = .inr d.shown ∧ Dp K Hm p.2 (F d)) : kvs.length < sizeLine := by
  obtain ⟨L, l1, l2⟩ := fo.fin
  have := nodup_len h1 (m := L.map fun d => (Sum.inr d.shown : Key)) fun x hx => by
    obtain ⟨p, hp, rfl⟩ := List.mem_map.mp hx
    obtain ⟨d, k1, k2, _⟩ := h2 p hp
    rw [k2]
    exact List.mem_map.mpr ⟨d, l2 d k1, rfl⟩
  rw [List.length_map, List.length_map] at this
  omega
theorem cs_le : MOle (cs K Fam F nd) (cs K Fam F none) := fun K' H Hm α a h => by
  obtain ⟨o, e, kvs, h1, h2, h3, h4⟩ := h
  exact ⟨o, e, kvs, h1, h2, h3, fun d z => by cases z⟩
theorem le_cs (hm : μ[n]? = some (cs K Fam F none)) : MuLe (μ.set n (cs K Fam F nd)) μ := by
  refine ⟨by rw [List.length_set], fun j m m' h1 h2 => ?_⟩
  rcases set_get h1 with ⟨rfl, rfl, _⟩ | ⟨hne, h3⟩
  · rw [hm] at h2
    cases h2
    exact cs_le
  · rw [h2] at h3
    cases h3
    exact MOle.refl m
/-- {} -/
theorem ex_newS : EX K tDNewK ρ μ (.o μ.length) (μ ++ [cs K Fam F none]) := fun σ H Hm α s l hs S Q q => fun p hp =>
  q (.ref p) _ Hm (α ++ [p]) (Aft.new s S hp ⟨.dK [], upd_same, [], rfl, List.nodup_nil, fun p h => (nomatch h), fun d z => by cases z⟩) ⟨p, by rw [← S.len]; simp, rfl⟩
theorem xm_unlessS (fo : FamS Fam) (hk : EX K tk ρ μ (.d (.str z)) μ) (hz : z = k.shown) (hd : EX K td ρ μ (.o n) μ) (hm : μ[n]? = some (cs K Fam F none)) (body : XM K t ρ μ (.nx ρ (μ.set n (cs K Fam F (some k))))) :
    XM K (tIfS (tTest (tOp (rInS true) tk td)) t tNext) ρ μ (.nx ρ (μ.set n (cs K Fam F (some k)))) := fun L0 H0 Hm0 E σ H Hm α S f =>
  hk σ H Hm α S.gr.sub S.len S.sd S.sto _ fun y H1 Hm1 α1 A1 hy => by
    have S1 := S.aft A1
    refine hd σ H1 Hm1 α1 S1.gr.sub S1.len S1.sd S1.sto _ fun x H2 Hm2 α2 A2 hx => ?_
    have S2 := S1.aft A2
    obtain ⟨a, ha, rfl⟩ := hx
    cases (show Dp K Hm1 y (.str z) from hy)
    obtain ⟨o, e1, kvs, e2, n1, n2, _⟩ := (show MOk K H2 Hm2 α2 a (cs K Fam F none) from S2.sto.ok n a _ ha hm)
    subst e2
    refine ⟨a, kvs, z, rfl, rfl, e1, _, rfl, ?_⟩
    have f2 := (f.mono A1.gr.em A1.pre).mono A2.gr.em A2.pre
    rw [if_pos rfl]
    cases c : (valV kvs (.inr z)).isSome with
    | false => exact body L0 H0 Hm0 E σ H2 Hm2 α2 S2 f2
    | true =>
      refine f2 σ H2 Hm2 α2 (Ex.refl _) (List.prefix_refl _) ⟨S2.gr, S2.len, S2.sd, S2.sto.re ha ⟨_, e1, kvs, rfl, n1, n2, fun d e => ?_⟩, S2.fr⟩
      cases e
      obtain ⟨p, h1, h2, _⟩ := valV_yes c
      exact List.mem_map.mpr ⟨p, h1, by rw [← hz]; exact h2⟩
theorem xm_knownS (fo : FamS Fam) (hv : EX K tv ρ μ (.d (F k)) μ) (hd : EX K td ρ μ (.o n) μ) (hk : EX K tk ρ μ (.d (.str z)) μ) (hz : z = k.shown) (hm : μ[n]? = some (cs K Fam F none)) (fk : Fam k) :
    XM K (tAsg tv (gSub td tk rSetS)) ρ μ (.nx ρ (μ.set n (cs K Fam F (some k)))) := fun L0 H0 Hm0 E σ H Hm α S f =>
  hv σ H Hm α S.gr.sub S.len S.sd S.sto _ fun v H1 Hm1 α1 A1 hv1 => by
    have S1 := S.aft A1
    refine hd σ H1 Hm1 α1 S1.gr.sub S1.len S1.sd S1.sto _ fun x H2 Hm2 α2 A2 hx => ?_
    have S2 := S1.aft A2
    refine hk σ H2 Hm2 α2 S2.gr.sub S2.len S2.sd S2.sto _ fun y H3 Hm3 α3 A3 hy => ?_
    have S3 := S2.aft A3
    obtain ⟨a, ha, rfl⟩ := hx.mono A3.gr.em A3.pre
    have hv3 : Dp K Hm3 v (F k) := Dp.mono (Dp.mono (show Dp K Hm1 v (F k) from hv1) A2.gr.em) A3.gr.em
    cases (show Dp K Hm3 y (.str z) from hy)
    obtain ⟨o, e1, kvs, e2, n1, n2, _⟩ := (show MOk K H3 Hm3 α3 a (cs K Fam F none) from S3.sto.ok n a _ ha hm)
    subst e2
    refine ⟨a, kvs, z, rfl, rfl, e1, cs_len fo n1 n2, ?_⟩
    have A4 : Aft K α3 H3 Hm3 (μ.set n (cs K Fam F (some k))) α3 (upd H3 a (.dK (putK kvs (.inr z) v))) Hm3 := Aft.put S3.gr.sub S3.sto ha ⟨_, upd_same, _, rfl, putK_nodup n1, fun p hp => ?_, fun d e => ?_⟩
    · have f3 := ((f.mono A1.gr.em A1.pre).mono A2.gr.em A2.pre).mono A3.gr.em A3.pre
      exact f3 σ _ Hm3 α3 (Ex.refl _) (List.prefix_refl _) (S3.aft A4)
    · rcases putK_mem hp with h | ⟨h1, h2⟩
      · exact n2 p h
      · exact ⟨k, fk, by rw [h1, hz], by rw [h2]; exact hv3⟩
    · cases e
      rw [← hz]
      exact putK_has
theorem ex_knownS (fo : FamS Fam) (hd : EX K td ρ μ (.o n) μ) (hk : EX K tk ρ μ (.d (.str z)) μ) (hz : z = k.shown) (hm : μ[n]? = some (cs K Fam F (some k))) (fk : Fam k) : EX K (tOp rIxS' td tk) ρ μ (.d (F k)) μ := fun σ H Hm α s l hs S Q q =>
  hd σ H Hm α s l hs S _ fun x H1 Hm1 α1 A1 hx => by
    refine hk σ H1 Hm1 α1 A1.gr.sub l (hs.aft A1) A1.sto _ fun y H2 Hm2 α2 A2 hy => ?_
    obtain ⟨a, ha, rfl⟩ := hx.mono A2.gr.em A2.pre
    cases (show Dp K Hm2 y (.str z) from hy)
    obtain ⟨o, e1, kvs, e2, n1, n2, n3⟩ := (show MOk K H2 Hm2 α2 a (cs K Fam F (some k)) from A2.sto.ok n a _ ha hm)
    subst e2
    obtain ⟨p, h1, h2, h3⟩ := valV_yes (valV_of (n3 k rfl))
    obtain ⟨d, k1, k2, k4⟩ := n2 p h1
    have e : d.shown = k.shown := by
      have := k2.symm.trans h2
      injection this
    rw [fo.inj d k k1 fk e] at k4
    exact ⟨a, kvs, z, p.2, rfl, rfl, e1, by rw [hz]; exact h3, q p.2 H2 Hm2 α2 (A1.trans A2) k4⟩
end
/-! ### x in a list or a tuple, data -/
def rInX (K : PySem.W.Frag) (neg : Bool) : R2 := fun x y H Q => ∃ d e ds, (e = .list ds ∨ e = .tuple ds) ∧ Dp K H x d ∧ Dp K H y e ∧ SeqAt.shaped d = true ∧ SeqAt.shaped e = true ∧ Q (.bl (if neg = true then !(ds.any fun z => PyData.eqv z d) else ds.any fun z => PyData.eqv z d)) H
section
variable {X : Cx}
theorem lay_seq {ds : List D} {e : D} (h : e = .list ds ∨ e = .tuple ds) (hs : SeqAt.shaped e = true) : PyData.canLayAll0 ds = true := by
  have := SeqAt.canLay_of_shaped hs
  rcases h with rfl | rfl <;> simpa [PyData.canLay0] using this
theorem op_inX (hu : X.A.units + 65 < cLine) : OpR X (compareOp .In) (rInX X.K false) := by
  intro pins s σ H x y v u Q I rx ry h
  obtain ⟨d, e, ds, he, hd, hy, sd, se, q⟩ := h
  obtain ⟨as, r1⟩ := Dp.reads I d x v hd rx
  obtain ⟨bs, r2⟩ := Dp.reads I e y u hy ry
  rw [if_neg Bool.false_ne_true] at q
  have l := lay_seq he se
  rcases he with rfl | rfl
  · exact SeqAt.in_list_reads r2 r1 l (SeqAt.canLay_of_shaped sd) (room_in_shaped sd hu) ⟨.bl _, H, I, rfl, q⟩
  · exact SeqAt.in_tuple_reads r2 r1 l (SeqAt.canLay_of_shaped sd) (room_in_shaped sd hu) ⟨.bl _, H, I, rfl, q⟩
theorem op_notInX (hu : X.A.units + 65 < cLine) : OpR X (compareOp .NotIn) (rInX X.K true) := by
  intro pins s σ H x y v u Q I rx ry h
  obtain ⟨d, e, ds, he, hd, hy, sd, se, q⟩ := h
  obtain ⟨as, r1⟩ := Dp.reads I d x v hd rx
  obtain ⟨bs, r2⟩ := Dp.reads I e y u hy ry
  rw [if_pos rfl] at q
  have l := lay_seq he se
  rcases he with rfl | rfl
  · exact SeqAt.notIn_list_reads r2 r1 l (SeqAt.canLay_of_shaped sd) (room_in_shaped sd hu) ⟨.bl _, H, I, rfl, q⟩
  · exact SeqAt.notIn_tuple_reads r2 r1 l (SeqAt.canLay_of_shaped sd) (room_in_shaped sd hu) ⟨.bl _, H, I, rfl, q⟩
theorem op_inXK (K : PySem.W.Frag) (h : X.K = K) (hu : X.A.units + 65 < cLine) : OpR X (compareOp .In) (rInX K false) := h ▸ op_inX hu
theorem op_notInXK (K : PySem.W.Frag) (h : X.K = K) (hu : X.A.units + 65 < cLine) : OpR X (compareOp .NotIn) (rInX K true) := h ▸ op_notInX hu
end
theorem rd_inX {K : PySem.W.Frag} {x e : D} {ds : List D} (he : e = .list ds ∨ e = .tuple ds) (hx : SeqAt.shaped x = true) (hl : SeqAt.shaped e = true) : RD K (rInX K false) x e (.bool (ds.any fun y => PyData.eqv y x)) := fun H Hm v u s hv hu Q q => ⟨x, e, ds, he, hv.mono s, hu.mono s, hx, hl, q _ H Hm (Gr.refl s) (.bl _)⟩
theorem rd_notInX {K : PySem.W.Frag} {x e : D} {ds : List D} (he : e = .list ds ∨ e = .tuple ds) (hx : SeqAt.shaped x = true) (hl : SeqAt.shaped e = true) : RD K (rInX K true) x e (.bool (!(ds.any fun y => PyData.eqv y x))) := fun H Hm v u s hv hu Q q => ⟨x, e, ds, he, hv.mono s, hu.mono s, hx, hl, q _ H Hm (Gr.refl s) (.bl _)⟩
end LM

set_option Elab.async false
set_option linter.all false
set_option maxRecDepth 100000
set_option maxHeartbeats 1000000
/-! LmW: the top of a law whose def knows that no repr is under way. -/
namespace LM
open PySem PySem.Spec PyProof.Rows L2 Evl
section
variable {P : Program} {w : World} {K : PySem.W.Frag} {mg mb : Str → Option Value} {k : Nat} {fa a : Addr} {fd : FuncData} {x : Str} {sp : Sp} {s₁ : Shared} {vs : List Value} {ns : List Int}
/-- the law's call at the top, the script tracked as H tells -/
theorem call_top (inK : K.In s₁.heap) (gl : s₁.heap.Ns mainGlobals mg) (bi : s₁.heap.Ns builtinsNs mb) (boot : ∀ x : Str, x ≠ "__name__" → mb x = bootBuiltins x) (free : s₁.heap.NoLimit) (g0 : s₁.gens = #[])
    (at_ : s₁.heap.get? a = some { cls := .type "list", data := .seq vs.toArray }) (hr : Room k callerA)
    (F : ∀ base : Heap, K.In base → base.Ns mainGlobals mg → FnG P w K mg base k fa fd [x] sp) (bind : ∀ (s : Shared) (u : Value), BindsTo s fd ⟨[u], []⟩ [(x, u)])
    (H : Hp) (only : Only H) (want : sp [.ref a] H (fun v _ => v = .bl true) fun _ _ _ => False) (ok : HOk P w H s₁.heap) (one : ∀ b, H b ≠ none → b = a) (new : H a ≠ none → K.lookup a = none) :
    codeAny (model P w) callerA (.call (.ref fa) ⟨[.ref a], []⟩) (fun r s' => r = .ok (.ret (.bool true)) ∧ OldK s₁.heap s'.heap ∧ s'.os = s₁.os ∧ AllBare s'.gens) s₁ := by
  have isA : ∀ {b : Addr} {u : HO}, H b = some u → b = a := fun {b u} q => one b fun z => by rw [z] at q; cases q
  have dicts : ∀ {b : Addr} {o : Obj} {es : Array DictEntry} {ep : Nat}, s₁.heap.get? b = some o → o.data = .dict es ep → H b = none := fun {b o es ep} e d => by
    cases q : H b with
    | none => rfl
    | some u =>
      rw [isA q, at_] at e
      cases e
      cases (show Data.seq vs.toArray _ = Data.dict es ep from d)
  have nsB : ∀ {b : Addr} {m : Str → Option Value}, s₁.heap.Ns b m → (hidT s₁.heap H).Ns b m := fun {b m} ⟨o, es, ep, e, d, r⟩ => ⟨o, es, ep, hidT_get e (dicts e d), d, r⟩
  have kB : K.In (hidT s₁.heap H) := fun b o e => hidT_get (inK b o e) (by
    cases q : H b with
    | none => rfl
    | some u =>
      have z := isA q
      subst z
      rw [new (by rw [q]; exact fun z => nomatch z)] at e
      cases e)
  obtain ⟨mc, l1, l2⟩ := free
  have env : Env0 P w K mg (hidT s₁.heap H) callerA [] s₁ H := ⟨rfl, ⟨kB, nsB gl, ⟨mb, nsB bi, boot⟩, mc, nsB l1, l2⟩, fun _ _ => of_hidT, Nat.le_of_eq (hidT_size _ _), trivial, fun b z => (by cases z), ok, .of_eq g0⟩
  refine codeAny_mono ((F _ kB (nsB gl)).run callerA [] s₁ H ⟨[.ref a], []⟩ [.ref a] [.ref a] _ _ rfl hr env (bind s₁ (.ref a)) (.cons rfl .nil) want) fun r s' fin => ?_
  cases r with
  | error e => exact (show False from fin).elim
  | ok fl =>
    cases fl with
    | ret u =>
      obtain ⟨v, H', os, bare, un, ok', rel, q⟩ := fin
      cases (show v = .bl true from q)
      cases (show u = Value.bool true from rel)
      refine ⟨rfl, OldK.of_keep fun b o e => ?_, os, bare⟩
      cases q : H b with
      | none => exact un.keep b o e q (fun z => by cases z) (fun z => by cases z)
      | some u =>
        rcases only b with z | ⟨ob, xs, z⟩
        · rw [q] at z; cases z
        · obtain ⟨e1, _⟩ := ok b _ z
          obtain ⟨e2, _⟩ := ok' b _ (un.frzs b ob _ z)
          rw [e1] at e
          cases e
          exact e2
    | next => exact (show False from fin).elim
    | brk => exact (show False from fin).elim
    | cont => exact (show False from fin).elim
theorem law_top (inK : K.In s₁.heap) (gl : s₁.heap.Ns mainGlobals mg) (bi : s₁.heap.Ns builtinsNs mb) (boot : ∀ x : Str, x ≠ "__name__" → mb x = bootBuiltins x) (free : s₁.heap.NoLimit) (g0 : s₁.gens = #[])
    (at_ : s₁.heap.get? a = some { cls := .type "list", data := .seq vs.toArray }) (numb : IntsAre vs ns) (few : ns.length ≤ sizeLine) (hr : Room k callerA)
    (F : ∀ base : Heap, K.In base → base.Ns mainGlobals mg → FnG P w K mg base k fa fd [x] sp) (bind : ∀ (s : Shared) (u : Value), BindsTo s fd ⟨[u], []⟩ [(x, u)])
    (want : ∀ H : Hp, Only H → SqL K H a (ns.map V.int) → sp [.ref a] H (fun v _ => v = .bl true) fun _ _ _ => False) :
    codeAny (model P w) callerA (.call (.ref fa) ⟨[.ref a], []⟩) (fun r s' => r = .ok (.ret (.bool true)) ∧ OldK s₁.heap s'.heap ∧ s'.os = s₁.os ∧ AllBare s'.gens) s₁ := by
  have rel := vals_ints numb
  have n := numb.length
  cases look : K.lookup a with
  | some o =>
    have e := inK a o look
    rw [at_] at e
    cases e
    refine call_top inK gl bi boot free g0 at_ hr F bind (fun _ => none) (fun _ => .inl rfl) (want _ (fun _ => .inl rfl) (.inr ⟨_, vs.toArray, _, look, rfl, rfl, rfl, by rw [List.size_toArray, n]; exact few, by simpa using rel⟩)) (fun b u z => by cases z) (fun b z => absurd rfl z) fun z => absurd rfl z
  | none =>
    obtain ⟨H, eH⟩ : ∃ H : Hp, H = fun b => if b = a then some (.frz { cls := .type "list", data := .seq vs.toArray } (.lst (ns.map V.int))) else none := ⟨_, rfl⟩
    have h1 : H a = some (.frz { cls := .type "list", data := .seq vs.toArray } (.lst (ns.map V.int))) := by rw [eH]; exact if_pos rfl
    have h2 : ∀ b, b ≠ a → H b = none := fun b hb => by rw [eH]; exact if_neg hb
    have only : Only H := fun b => by
      by_cases hb : b = a
      · exact .inr ⟨_, _, by rw [hb]; exact h1⟩
      · exact .inl (h2 b hb)
    refine call_top inK gl bi boot free g0 at_ hr F bind H only (want _ only (.inl (.inr ⟨_, h1⟩))) (fun b u z => ?_) (fun b z => Classical.byContradiction fun hb => z (h2 b hb)) fun _ => look
    by_cases hb : b = a
    · subst hb
      rw [h1] at z
      cases z
      exact ⟨at_, by rw [List.length_map]; exact few, vs, _, rel, at_⟩
    · rw [h2 b hb] at z
      cases z
end
/-- the goal that k_head leaves, from such a promise of the law -/
theorem walk_ofG {l : PySem.W.OpenLaw} {n k : Nat} {q : Program} {loose : List Str} {XP : (Str → Option Value) → Heap → Prop} {YP : World → Heap → Prop} {d : DefRec} {K : Params → PySem.W.Frag} {sp : World → Sp} {x : Str}
    (most : l.most = some n) (small : n ≤ sizeLine) (plain : d.params.defaults = []) (hr : Room k callerA) (hY : ∀ (w : World) (h : Heap), YP w h → (K w.params).In h)
    (F : ∀ (w : World) (mg : Str → Option Value) (fa : Addr) (h : Heap), (K w.params).In h → h.Ns mainGlobals mg → mg d.name = some (.ref fa) →
      ∃ fd : FuncData, (∀ (s : Shared) (u : Value), BindsTo s fd ⟨[u], []⟩ [(x, u)]) ∧ ∀ base : Heap, (K w.params).In base → base.Ns mainGlobals mg → FnG l.prog w (K w.params) mg base k fa fd [x] (sp w))
    (want : ∀ (w : World) (H : Hp) (a : Addr) (ns : List Int), ns.length ≤ n → Only H → SqL (K w.params) H a (ns.map V.int) → sp w [.ref a] H (fun v _ => v = .bl true) fun _ _ _ => False) :
    PySem.W.WalkO q loose XP YP l.row.toRowW d [] (fun f vs => PySem.call f vs) := by
  refine Att.attach_call most plain fun w s₀ s₁ mg mb fa o pm cd doc a vs ns G Y ho hd hcd named hobj hints len hg => ?_
  obtain ⟨fd, bind, hF⟩ := F w mg fa _ (hY w _ Y) G.T.g named
  exact law_top (hY w _ Y) G.T.g G.T.b G.T.builtins G.T.nolimit hg hobj hints (Nat.le_trans len small) hr hF bind fun H hO hS => want w H a ns len hO hS
end LM

set_option Elab.async false
set_option linter.all false
set_option maxRecDepth 100000
set_option maxHeartbeats 1000000
/-! LmZ: sorted of a tuple of trees. -/
namespace LM
open PySem PySem.Spec PyProof.Rows L2 Evl
def rSortTT (K : PySem.W.Frag) : List V → Hp → VK → Prop := fun vs H Q => ∃ (a : Addr) (xs : List V) (ts : List T), vs = [.ref a] ∧ SqT K H a xs ∧ DpAll K H xs (ts.map T.data) ∧ (∀ t ∈ ts, full t = true) ∧ T.depths ts ≤ 60 ∧
  ∀ ys p, H p = none → (∀ Hm, Ex Hm H → DpAll K Hm xs (ts.map T.data) → DpAll K Hm ys ((T.sort ts).map T.data)) → Q (.ref p) (upd H p (.lst ys))
theorem objOk_at {P : Program} {w : World} {H : Hp} {h : Heap} {a : Addr} {o : HO} (x : ObjOk P w H h a o) : ∃ u, h.get? a = some u := by
  cases o with
  | lst xs => exact ⟨_, x.2.choose_spec.choose_spec.2⟩
  | tup xs =>
    obtain ⟨_, its, _, u, e, _⟩ := x
    exact ⟨u, e⟩
  | dK kvs =>
    obtain ⟨_, _, vs, _, u, _, _, e, _⟩ := x
    exact ⟨u, e⟩
  | dT kvs =>
    obtain ⟨_, _, xs, _, u, _, _, e, _⟩ := x
    exact ⟨u, e⟩
  | set S n =>
    obtain ⟨u, _, _, _, e, _⟩ := x
    exact ⟨u, e⟩
  | ins C dx fs => exact ⟨_, x.2.2.2.1⟩
  | own y => exact x
  | xd fs =>
    obtain ⟨mA, ⟨u, _, _, e, _⟩, _⟩ := x
    exact ⟨u, e⟩
  | rng lo hi =>
    obtain ⟨t, u, v, e⟩ := x
    exact ⟨_, e⟩
  | frz ob u => exact ⟨_, x.1⟩
  | tbl ps => exact ⟨_, x⟩
  | met f y => exact ⟨_, x⟩
  | ext φ => exact x.2.1
section
variable {X : Cx}
theorem cr_sortedTT (hu : X.A.units + 100 < cLine) : CallR X (.builtin "sorted") (rSortTT X.K) := by
  intro pins s σ H vs us Q I r h
  obtain ⟨a, xs, ts, rfl, hs, hd, hf, hdep, q⟩ := h
  obtain ⟨its, rv, ⟨o, ho, hc, n, hdt⟩, hz⟩ := I.tuple hs
  rw [Vals.ref1 r]
  have x : IsTs s.heap ts its := isTs_of I ts xs its (by rw [T.datas_eq]; exact hd) rv
  have hzi : its.length ≤ sizeLine := by rw [← rv.length]; exact hz
  refine Calls.call_function_entry kind_sorted plain_sorted entry_sorted (args_sorted1 _) ?_
  unfold Builtin.«sorted»
  refine wpAny_bind (m := checkCount "sorted" 1 1 _) (wpAny_pure ?_)
  refine wpAny_bind (wpAny_collect_seq a (T := "tuple") (.inr rfl) ho hc hdt (fun h' k1 => ?_) hzi)
  rw [List.toList_toArray]
  refine wpAny_bind (wpAny_newList ?_ hzi)
  have hoL : (h'.push (seqObj "list" its.toArray 0)).get? h'.objs.size = some (seqObj "list" its.toArray 0) := Heap.get?_push_size _ rfl
  have k2 : ∀ b o, s.heap.get? b = some o → (h'.push (seqObj "list" its.toArray 0)).get? b = some o := fun b o e => Heap.get?_push_of_some _ (k1 b o e)
  have hp : s.heap.get? h'.objs.size = none := by
    cases e : s.heap.get? h'.objs.size with
    | none => rfl
    | some u => exact absurd (Heap.lt_size (k1 _ _ e)) (Nat.lt_irrefl _)
  have hn : H h'.objs.size = none := by
    cases e : H h'.objs.size with
    | none => rfl
    | some u =>
      obtain ⟨y, hy⟩ := objOk_at (I.hok _ _ e)
      rw [hp] at hy
      cases hy
  refine wpAny_bind (wpAny_holding (wpAny_call_entry slot_list_sort ⟨_, hoL, rfl⟩ entry_list_sort (SrtO.list_sort_ord (s := { s with heap := h'.push (seqObj "list" its.toArray 0) }) (swo_T s.heap) hoL hzi (fun h2 => ?_) fun out hso hb => ⟨_, rfl, ?_⟩) (args_list_sort _)))
  · refine sortable_T (s := { s with heap := h'.push (seqObj "list" its.toArray 0) }) (by omega) (x.keep (fun b o e _ => k2 b o e) ts its) hf hdep (by show X.A.units + 1 + 1 + 62 < cLine; omega) s.heap (fun v hv => ?_) fun o' e c => ?_
    · obtain ⟨t, _, y⟩ := isTs_all x v hv
      rw [tOf_eq y]
      exact (tOf_eq (y.keep (fun b o e _ => k2 b o e) _ _)).symm
    · have e' : some o' = some (seqObj "list" its.toArray 0) := e.symm.trans hoL
      cases e'
      exact absurd (Value.type.inj c) (by decide)
  · obtain ⟨c, hcc⟩ := sortedHeap_at (vs := its) (out := out.toArray) hoL
    obtain ⟨v1, d1⟩ := sorted_out I hd rv hso hb.perm
    have hlen : (out.map backV).length ≤ sizeLine := by rw [List.length_map, hb.perm.length_eq]; exact hzi
    have keep : ∀ b u, s.heap.get? b = some u → (sortedHeap (h'.push (seqObj "list" its.toArray 0)) h'.objs.size its out.toArray).get? b = some u := fun b u e => by
      have e1 := k1 b u e
      have lt := Heap.lt_size e1
      rw [sortedHeap_old (Nat.ne_of_lt lt) (by rw [size_push']; exact Nat.lt_succ_of_lt lt)]
      exact Heap.get?_push_of_some _ e1
    refine wpAny_pure ⟨_, rfl, .ref h'.objs.size, upd H h'.objs.size (.lst (out.map backV)), I.laidN (t' := s.toks) keep hp hn ⟨hlen, out, c, v1, hcc⟩, rfl, q _ _ hn d1⟩
theorem cr_sortedTTK (K : PySem.W.Frag) (h : X.K = K) (hu : X.A.units + 100 < cLine) : CallR X (.builtin "sorted") (rSortTT K) := h ▸ cr_sortedTT hu
end
theorem cl_sortedTT {K : PySem.W.Frag} {ts : List T} (hf : ∀ t ∈ ts, full t = true) (hd : T.depths ts ≤ 60) : CL K (rSortTT K) [.tuple (ts.map T.data)] ((T.sort ts).map T.data) := fun H Hm xs s hx Q q => by
  obtain ⟨v, rfl, h⟩ := dps1 hx
  obtain ⟨a, ys, rfl, hs, ha⟩ := dp_tup h
  refine ⟨a, ys, ts, rfl, ex_t s hs, ha.mono s, hf, hd, fun zs p hp hz => ?_⟩
  exact q p zs _ Hm (Gr.priv s hp) hp (fresh_back s hp) upd_same (hz Hm s ha)
end LM

set_option Elab.async false
set_option linter.all false
set_option maxRecDepth 100000
set_option maxHeartbeats 4000000
namespace LM
open PySem PySem.Spec PyProof.Rows L2 Evl
def topS (i : Nat) : Stmt := PySem.Challenge.pw_lastmove_k21_whole_one_plain_form.main.body.getD i (.Pass ⟨0, 0, 0, 0⟩)
/-! ### games as trees: their moves, how they stand to one another -/
def opt (t : T) (w : Int) : List T := match t with
  | .n [.n a, .n b] => if w = 0 then a else b
  | _ => []
def isGm : Nat → T → Bool
  | 0, _ => false
  | f + 1, t => match t with
    | .n [.n a, .n b] => a.all (isGm f) && b.all (isGm f)
    | _ => false
theorem gm_shape {f : Nat} {t : T} (h : isGm f t = true) : ∃ a b, t = .n [.n a, .n b] := by
  cases f with
  | zero => cases h
  | succ f =>
    unfold isGm at h
    split at h
    · exact ⟨_, _, rfl⟩
    · cases h
theorem gm_row {f : Nat} {a b : List T} (h : isGm (f + 1) (.n [.n a, .n b]) = true) : (∀ x ∈ a, isGm f x = true) ∧ ∀ x ∈ b, isGm f x = true := by
  have h' : (a.all (isGm f) && b.all (isGm f)) = true := h
  rw [Bool.and_eq_true] at h'
  exact ⟨fun x hx => List.all_eq_true.mp h'.1 x hx, fun x hx => List.all_eq_true.mp h'.2 x hx⟩
theorem gm_opt {f : Nat} {t x : T} {w : Int} (h : isGm (f + 1) t = true) (hx : x ∈ opt t w) : isGm f x = true := by
  obtain ⟨a, b, rfl⟩ := gm_shape h
  obtain ⟨oa, ob⟩ := gm_row h
  have hx' : x ∈ (if w = 0 then a else b) := hx
  split at hx'
  · exact oa x hx'
  · exact ob x hx'
theorem gm_mono : ∀ {f g : Nat} {t : T}, isGm f t = true → f ≤ g → isGm g t = true
  | 0, _, _, h, _ => by cases h
  | f + 1, 0, _, _, hg => by omega
  | f + 1, g + 1, t, h, hg => by
    obtain ⟨a, b, rfl⟩ := gm_shape h
    obtain ⟨oa, ob⟩ := gm_row h
    show (a.all (isGm g) && b.all (isGm g)) = true
    rw [Bool.and_eq_true]
    exact ⟨List.all_eq_true.mpr fun x hx => gm_mono (oa x hx) (by omega), List.all_eq_true.mpr fun x hx => gm_mono (ob x hx) (by omega)⟩
theorem opt_data {f : Nat} {t : T} (h : isGm f t = true) {w : Int} (hw : w = 0 ∨ w = 1) : ∃ l, t.data = .tuple l ∧ atI l w = some (.tuple ((opt t w).map T.data)) := by
  obtain ⟨a, b, rfl⟩ := gm_shape h
  refine ⟨[.tuple (a.map T.data), .tuple (b.map T.data)], by simp [T.data_n], ?_⟩
  rcases hw with rfl | rfl <;> rfl
/-- is left, moving first in the one less the other, without a win -/
def leT : Nat → T → T → Bool
  | 0, _, _ => true
  | f + 1, a, b => !((opt a 0).any fun g => leT f b g) && !((opt b 1).any fun g => leT f g a)
theorem any_same {α : Type} {p q : α → Bool} : ∀ {l : List α}, (∀ x ∈ l, p x = q x) → l.any p = l.any q
  | [], _ => rfl
  | x :: l, h => by rw [List.any_cons, List.any_cons, h x List.mem_cons_self, any_same fun y hy => h y (List.mem_cons_of_mem _ hy)]
theorem le_stable : ∀ (f g n m : Nat) (a b : T), isGm n a = true → isGm m b = true → n + m ≤ f → n + m ≤ g → leT f a b = leT g a b
  | 0, _, n, m, a, b, ha, _, hf, _ => by
    have : n = 0 := by omega
    subst this
    cases ha
  | f + 1, 0, n, m, a, b, ha, _, _, hg => by
    have : n = 0 := by omega
    subst this
    cases ha
  | f + 1, g + 1, 0, m, a, b, ha, _, _, _ => by cases ha
  | f + 1, g + 1, n + 1, 0, a, b, _, hb, _, _ => by cases hb
  | f + 1, g + 1, n + 1, m + 1, a, b, ha, hb, hf, hg => by
    unfold leT
    rw [any_same (l := opt a 0) fun x hx => le_stable f g (m + 1) n b x hb (gm_opt ha hx) (by omega) (by omega), any_same (l := opt b 1) fun x hx => le_stable f g m (n + 1) x a (gm_opt hb hx) ha (by omega) (by omega)]
def leV (a b : T) : Bool := leT 60 a b
theorem leV_eq {n m : Nat} {a b : T} (ha : isGm n a = true) (hb : isGm m b = true) (h : n + m ≤ 59) : leV a b = (!((opt a 0).any fun g => leV b g) && !((opt b 1).any fun g => leV g a)) := by
  cases n with
  | zero => cases ha
  | succ n =>
    cases m with
    | zero => cases hb
    | succ m =>
      show leT (59 + 1) a b = _
      unfold leT
      rw [any_same (l := opt a 0) fun x hx => le_stable 59 60 (m + 1) n b x hb (gm_opt ha hx) (by omega) (by omega), any_same (l := opt b 1) fun x hx => le_stable 59 60 m (n + 1) x a (gm_opt hb hx) ha (by omega) (by omega)]
      rfl
/-- pairs of games as keys -/
def PairF (Pr : T → T → Prop) (d : D) : Prop := ∃ a b, Pr a b ∧ d = .tuple [T.data a, T.data b]
def leF (d : D) : D := match d with
  | .tuple [a, b] => .bool (leV (ofD a) (ofD b))
  | _ => .none
theorem leF_eq (a b : T) : leF (.tuple [a.data, b.data]) = .bool (leV a b) := by
  show PyData.bool (leV (ofD a.data) (ofD b.data)) = _
  rw [ofD_data, ofD_data]
/-- games (Gm) of which some pairs (Pr) are asked -/
structure GmOk (w : World) (Gm : T → Prop) (Pr : T → T → Prop) : Prop where
  fam : FamOk w (PairF Pr)
  lr : ∀ a b, Pr a b → Gm a ∧ Gm b
  c0 : ∀ a b, Pr a b → ∀ g, g ∈ opt a 0 → Pr b g
  c1 : ∀ a b, Pr a b → ∀ g, g ∈ opt b 1 → Pr g a
  cl : ∀ t, Gm t → ∀ v x, x ∈ opt t v → Gm x
  bd : ∀ t, Gm t → isGm 20 t = true
  few : ∀ t, Gm t → ∀ v, (opt t v).length < 64
abbrev leC (K : PySem.W.Frag) (w : World) (Pr : T → T → Prop) : MO := cch K w (PairF Pr) leF none
def RAtMost (K : PySem.W.Frag) (w : World) (Pr : T → T → Prop) (N : Nat) (xs : List SV) (μ : Mu) (r : SV) (μ' : Mu) : Prop :=
  ∃ a b n m, xs = [.d (T.data a), .d (T.data b), .o 0] ∧ μ = [leC K w Pr] ∧ Pr a b ∧ isGm n a = true ∧ isGm m b = true ∧ n ≤ 20 ∧ m ≤ 20 ∧ n + m < N ∧ r = .d (.bool (leV a b)) ∧ μ' = μ
mutual
theorem data_im : ∀ t : T, imm t.data = true
  | .n ts => by rw [T.data, imm]; exact datas_im ts
theorem datas_im : ∀ ts : List T, imms (T.datas ts) = true
  | [] => by rw [T.datas, imms]
  | t :: ts => by rw [T.datas, imms, data_im t, datas_im ts]; rfl
end
theorem has_noneM {P : Program} {w : World} {K : PySem.W.Frag} {mg : Str → Option Value} {base : Heap} {x : Str} {k : Nat} {f : Addr} {fd : FuncData} {ps : List Str} {st : Stmt} {R : List SV → Mu → SV → Mu → Prop} (F : Fun K x x st f fd) (b : Binds K fd ps []) (hm : mg x = some (.ref f)) (no : ∀ xs μ r μ', ¬ R xs μ r μ') : Has P w K mg base k x (SpM K R) := by
  refine ⟨f, fd, ps, ⟨fun vs H Q E h => ?_, fun A outer s H args us vs Q E _ _ _ _ h => ?_⟩, hm, F.kp, b⟩
  · obtain ⟨xs, μ, r, μ', _, _, _, _, _, h, _⟩ := h; exact absurd h (no xs μ r μ')
  · obtain ⟨xs, μ, r, μ', _, _, _, _, _, h, _⟩ := h; exact absurd h (no xs μ r μ')
theorem rd_ixUT' {K : PySem.W.Frag} {d e : D} {l : List D} {i : Int} (h : d = .tuple l) (hi : atI l i = some e) : RD K (rIx K) d (.int i) e := by
  subst h
  exact rd_ixUT hi
/-! ### at_most_in -/
abbrev sAtMostIn : Stmt := topS 1
abbrev nAtMostIn : List Str := ["one", "other", "known", "found", "game"]
theorem scAtMostIn : FnScope nAtMostIn ["one", "other", "known"] (defScope sAtMostIn) := ⟨rfl, rfl, rfl, by decide +kernel, rfl, by decide +kernel, by decide +kernel⟩
section
variable {P : Program} {w : World} {K : PySem.W.Frag} {mg : Str → Option Value} {base : Heap} {f : Addr} {fd : FuncData} {k j : Nat} {Gm : T → Prop} {Pr : T → T → Prop}
/-- a call of at_most_in, the cache in cell n -/
theorem ex_atm {N n m i : Nat} {ρ : Rx} {μ : Mu} {ta : TA} {a b : T} (pab : Pr a b) (ia : isGm n a = true) (ib : isGm m b = true) (hn : n ≤ 20) (hm : m ≤ 20) (hN : n + m < N) (hi : μ[i]? = some (leC K w Pr)) (ha : EXs K ta ρ μ [.d a.data, .d b.data, .o i] μ) :
    EX K (tCall (SpM K (RAtMost K w Pr N)) [] E0 ta) ρ μ (.d (.bool (leV a b))) μ := by
  have li := (List.getElem?_eq_some_iff.mp hi).1
  have h := ex_callM (K := K) (E := E0) (R := RAtMost K w Pr N) (xs := [.d a.data, .d b.data, .o 0]) [i] (μ1 := μ) (ρ := ρ) (μ := μ) (ta := ta) ha (by simp) (by simpa using li) (seenN i hi rfl rfl) (fun y hy => by
    simp only [List.mem_cons, List.not_mem_nil, or_false] at hy
    rcases hy with rfl | rfl | rfl
    · exact True.intro
    · exact True.intro
    · exact Nat.zero_lt_one) ⟨a, b, n, m, rfl, rfl, pab, ia, ib, hn, hm, hN, rfl, rfl⟩
  refine ex_mu h ?_
  have e := back1 (μ := μ) (n := i) (m' := leC K w Pr) li rfl
  rw [set_self hi] at e
  exact e
theorem has_at_most_in1 (B : BI mg) (G : GmOk w Gm Pr) (F : Fun K "at_most_in" "at_most_in" sAtMostIn f fd) (b : Binds K fd ["one", "other", "known"] []) (hm : mg "at_most_in" = some (.ref f)) {N : Nat}
    (h_at_most_in : Has P w K mg base k "at_most_in" (SpM K (RAtMost K w Pr N))) : Has P w K mg base (k + 1) "at_most_in" (SpM K (RAtMost K w Pr (N + 1))) := by
  refine has_ofM F b hm scAtMostIn (by decide) (fun xs μ r μ' h => by obtain ⟨_, _, _, _, rfl, _⟩ := h; rfl) (fun cdv A outer s H E hr => ⟨_, (pss_cons (ps_if (pt_cmpR (op_notInNK K w rfl rfl (hu64 hr)) (pe_tup (pa_cons (pv 0) (pa_cons (pv 1) pa_nil))) (pv 2) (by with_unfolding_all rfl)) (pss_cons (ps_set (i := 3) scAtMostIn.nd rfl (by first | exact .inl rfl | exact .inr rfl) (pe_not (pe_callB (cr_anyK K rfl rfl) (by rfl) B.any boot_any (pa_cons (pe_lc (own := [("game", 4)]) rfl scAtMostIn.nd (pi_tupK K rfl (pe_ix (ix_K K rfl) (pv 0) pe_int (fun _ _ => rfl))) (blkOk_by (N := nAtMostIn) (sc := defScope sAtMostIn) (by decide +kernel)) (fun _ _ _ _ _ => (pg_name (i := 4) scAtMostIn.nd rfl (by first | exact .inl rfl | exact .inr rfl))) (fun _ _ _ _ _ => pts_nil) (fun _ _ _ _ _ => (pe_h h_at_most_in hr (by omega) (by rfl) (pa_cons (pv 1) (pa_cons (pv 4) (pa_cons (pv 2) pa_nil)))))) pa_nil))))
    (pss_one (ps_asg (pe_and (pv 3) (pe_one (pe_not (pe_callB (cr_anyK K rfl rfl) (by rfl) B.any boot_any (pa_cons (pe_lc (own := [("game", 4)]) rfl scAtMostIn.nd (pi_tupK K rfl (pe_ix (ix_K K rfl) (pv 1) pe_int (fun _ _ => rfl))) (blkOk_by (N := nAtMostIn) (sc := defScope sAtMostIn) (by decide +kernel)) (fun _ _ _ _ _ => (pg_name (i := 4) scAtMostIn.nd rfl (by first | exact .inl rfl | exact .inr rfl))) (fun _ _ _ _ _ => pts_nil) (fun _ _ _ _ _ => (pe_h h_at_most_in hr (by omega) (by rfl) (pa_cons (pv 4) (pa_cons (pv 0) (pa_cons (pv 2) pa_nil)))))) pa_nil))))) (pg_sub (pv 2) (pe_tup (pa_cons (pv 0) (pa_cons (pv 1) pa_nil))) (set_NK K w rfl rfl (hu64 hr)))))) pss_nil)
    (pss_one (ps_ret (pe_ix (ix_NK K w rfl rfl (hu64 hr)) (pv 2) (pe_tup (pa_cons (pv 0) (pa_cons (pv 1) pa_nil))) (fun _ _ => rfl))))), fun xs μ r μ' h => ?_⟩)
  try dsimp only [cxOf, Cx.nox, Cx.wish]
  obtain ⟨a, b, n, m, rfl, rfl, pab, ia, ib, hn, hm, hN, rfl, rfl⟩ := h
  obtain ⟨n, rfl⟩ : ∃ q, n = q + 1 := by
    cases n with
    | zero => cases ia
    | succ n => exact ⟨n, rfl⟩
  obtain ⟨m, rfl⟩ : ∃ q, m = q + 1 := by
    cases m with
    | zero => cases ib
    | succ m => exact ⟨m, rfl⟩
  have ga := (G.lr a b pab).1
  have gb := (G.lr a b pab).2
  have fk : PairF Pr (.tuple [a.data, b.data]) := ⟨a, b, pab, rfl⟩
  obtain ⟨la, ea, ha⟩ := opt_data ia (w := 0) (.inl rfl)
  obtain ⟨lb, eb, hb⟩ := opt_data ib (w := 1) (.inr rfl)
  have fa := G.few a ga 0
  have fb := G.few b gb 1
  have key : ∀ x y : Option SV, ED K (tTup (tCons (tVar 0) (tCons (tVar 1) tNil))) (pur [some (.d a.data), some (.d b.data), some (.o 0), x, y]) (.tuple [a.data, b.data]) := fun x y => ed_tup (eds_cons (ed_var rfl) (eds_cons (ed_var rfl) eds_nil)) (by simp)
  refine .inl ?_
  refine (show XM K _ [some (.d a.data), some (.d b.data), some (.o 0), none, none] _ _ from ?_)
  refine xm_seq (ρ1 := [some (.d a.data), some (.d b.data), some (.o 0), none, none]) (μ1 := [cch K w (PairF Pr) leF (some (.tuple [a.data, b.data]))]) (xm_unless (n := 0) G.fam (ex_pure (key _ _)) (ex_var rfl) rfl fk ?_) ?_
  · refine xm_less (n := 1) (ρ1 := [some (.d a.data), some (.d b.data), some (.o 0), some (.d (.bool (!((opt a 0).any fun g => leV b g)))), none]) (μ1 := [cch K w (PairF Pr) leF (some (.tuple [a.data, b.data]))]) ?_ (Nat.le_refl _) rfl rfl (fun i x h => ?_)
    · refine xm_seq (ρ1 := [some (.d a.data), some (.d b.data), some (.o 0), some (.d (.bool (!((opt a 0).any fun g => leV b g)))), none]) (μ1 := [leC K w Pr]) (xm_asg (ex_notV (ex_anyT (l := opt a 0) (p := fun g => leV b g) ?_ (fun g hg => ?_)))) ?_
      · exact ex_pure (ed_op (ed_var rfl) ed_int (rd_ixUT' ea ha))
      · refine ex_atm (N := N) (G.c0 a b pab g hg) ib (gm_opt ia hg) hm (by omega) (by omega) (i := 0) rfl (exs_cons (ex_var rfl) (exs_cons (ex_var rfl) (exs_cons (ex_var rfl) exs_nil)))
      · refine xm_known (n := 0) G.fam (ex_is (ex_andV (p := !((opt a 0).any fun g => leV b g)) (q := !((opt b 1).any fun g => leV g a)) (ex_var rfl) (fun _ => ex_notV (ex_anyT (l := opt b 1) (p := fun g => leV g a) ?_ (fun g hg => ?_))) (fun _ => rfl)) ?_) (ex_var rfl) (ex_pure (key _ _)) rfl fk
        · exact ex_pure (ed_op (ed_var rfl) ed_int (rd_ixUT' eb hb))
        · exact ex_atm (N := N) (G.c1 a b pab g hg) (gm_opt ib hg) ia (by omega) hn (by omega) (i := 0) rfl (exs_cons (ex_var rfl) (exs_cons (ex_var rfl) (exs_cons (ex_var rfl) exs_nil)))
        · rw [leF_eq, leV_eq ia ib (by omega)]
    · rcases i with _ | _ | _ | _ | _ | i
      · cases h; exact ⟨rfl, trivial⟩
      · cases h; exact ⟨rfl, trivial⟩
      · cases h; exact ⟨rfl, Nat.zero_lt_one⟩
      all_goals simp at h
  · exact xm_weakR (xm_ret (ex_is (ex_known (n := 0) G.fam (ex_var rfl) (ex_pure (key _ _)) rfl fk) (by rw [leF_eq]))) (le_cch (μ := [leC K w Pr]) (n := 0) rfl)
theorem has_at_most_in (B : BI mg) (G : GmOk w Gm Pr) (F : Fun K "at_most_in" "at_most_in" sAtMostIn f fd) (b : Binds K fd ["one", "other", "known"] []) (hm : mg "at_most_in" = some (.ref f)) : ∀ N : Nat, Has P w K mg base (k + N) "at_most_in" (SpM K (RAtMost K w Pr N))
  | 0 => has_noneM F b hm fun xs μ r μ' h => by obtain ⟨_, _, n, m, _, _, _, _, _, _, _, h, _⟩ := h; omega
  | N + 1 => has_at_most_in1 B G F b hm (has_at_most_in B G F b hm N)
end
section
def ROnce (ds : List D) (r : D) : Prop := ∃ ts : List T, ds = [.list (ts.map T.data)] ∧ (∀ t ∈ ts, full t = true) ∧ T.depths ts ≤ 60 ∧ ts.length ≤ 50000 ∧ r = .tuple ((T.set ts).map T.data)
/-- the game of these moves -/
def T.gm (ls rs : List T) : T := .n [.n ls, .n rs]
theorem T.gm_data (ls rs : List T) : (T.gm ls rs).data = .tuple [.tuple (ls.map T.data), .tuple (rs.map T.data)] := by
  unfold T.gm
  rw [T.data_n, List.map_cons, List.map_cons, List.map_nil, T.data_n, T.data_n]
def RBy (ds : List D) (r : D) : Prop := ∃ ls rs : List T, ds = [.list (ls.map T.data), .list (rs.map T.data)] ∧ (∀ t ∈ ls, full t = true) ∧ (∀ t ∈ rs, full t = true) ∧ T.depths ls ≤ 60 ∧ T.depths rs ≤ 60 ∧ ls.length ≤ 50000 ∧ rs.length ≤ 50000 ∧ r = (T.gm (T.set ls) (T.set rs)).data
end
/-! ### what is known while games are made plain -/
def pf : List (Str × SV) := [("known", .o 1), ("plains", .o 2)]
theorem ne_kp : (("known" : Str) == "plains") = false := by decide +kernel
theorem ne_pk : (("plains" : Str) == "known") = false := by decide +kernel
theorem lk_known : pf.lookup ("known" : Str) = some (SV.o 1) := by
  unfold pf
  rw [List.lookup_cons]
  simp
theorem lk_plains : pf.lookup ("plains" : Str) = some (SV.o 2) := by
  unfold pf
  rw [List.lookup_cons, ne_pk, List.lookup_cons]
  simp
theorem lk_noP {m : Str} (h1 : (m == "known") = false) (h2 : (m == "plains") = false) : pf.lookup m = none := by
  unfold pf
  rw [List.lookup_cons, h1, List.lookup_cons, h2]
  rfl
theorem put_pf {x y : SV} : putS "plains" y (putS "known" x []) = ([("known", x), ("plains", y)] : List (Str × SV)) := by
  have e : ¬ (("known" : Str) = "plains") := fun z => by have h := ne_kp; rw [z] at h; simp at h
  show putS "plains" y [("known", x)] = _
  show (if ("known" : Str) = "plains" then _ else (("known" : Str), x) :: putS "plains" y []) = _
  rw [if_neg e]
  rfl
structure PFacts (K : PySem.W.Frag) (C : Addr) : Prop where
  cl : Cls K C
  nK : NoAttr K C "known"
  nP : NoAttr K C "plains"
/-- a move no better for who than another -/
def belowV (a b : T) (v : Int) : Bool := if v = 0 then leV a b else leV b a
def wayV (g m : T) (v : Int) : Option T := (opt m (1 - v)).find? fun a => belowV a g v
/-- the moves of a game, those that lead back put away -/
def ledL : Nat → T → Int → List T → Option (List T)
  | 0, _, _, _ => none
  | _ + 1, _, _, [] => some []
  | f + 1, g, v, m :: rest => match wayV g m v with
    | none => (ledL f g v rest).map (m :: ·)
    | some a => ledL f g v (rest ++ opt a v)
def ledV (g : T) (v : Int) : List T := T.set ((ledL 200 g v (opt g v)).getD [])
def bestL (v : Int) : List T → List T → List T
  | [], found => found
  | m :: rest, found => bestL v rest (if (rest ++ found).any (fun o => belowV m o v) then found else found ++ [m])
def bestV (ms : List T) (v : Int) : List T := bestL v ms []
def hereT (g : T → T) (t : T) : T := T.gm (T.set ((opt t 0).map g)) (T.set ((opt t 1).map g))
def plainT : Nat → T → T
  | 0, t => t
  | f + 1, t => T.gm (T.set (bestV (ledV (hereT (plainT f) t) 0) 0)) (T.set (bestV (ledV (hereT (plainT f) t) 1) 1))
theorem hereT_same {g h : T → T} {t : T} (e : ∀ v x, x ∈ opt t v → g x = h x) : hereT g t = hereT h t := by
  unfold hereT
  rw [List.map_congr_left (e 0), List.map_congr_left (e 1)]
theorem plain_stable : ∀ (f g n : Nat) (t : T), isGm n t = true → n ≤ f → n ≤ g → plainT f t = plainT g t
  | f, g, 0, t, h, _, _ => by cases h
  | 0, _, n + 1, t, _, hf, _ => by omega
  | _ + 1, 0, n + 1, t, _, _, hg => by omega
  | f + 1, g + 1, n + 1, t, h, hf, hg => by
    unfold plainT
    rw [hereT_same fun v x hx => plain_stable f g n x (gm_opt h hx) (by omega) (by omega)]
def plainV (t : T) : T := plainT 30 t
def hereV (t : T) : T := hereT plainV t
theorem plainV_eq {n : Nat} {t : T} (h : isGm n t = true) (hn : n ≤ 29) : plainV t = T.gm (T.set (bestV (ledV (hereV t) 0) 0)) (T.set (bestV (ledV (hereV t) 1) 1)) := by
  cases n with
  | zero => cases h
  | succ n =>
    show plainT (29 + 1) t = _
    unfold plainT
    rw [hereT_same (h := plainV) fun v x hx => plain_stable 29 30 n x (gm_opt h hx) (by omega) (by omega)]
    rfl
/-- lists that a set takes -/
structure SetOk (w : World) (ts : List T) : Prop where
  ful : ∀ t ∈ ts, full t = true
  dep : T.depths ts ≤ 30
  ap : Apart w ts
  few : ts.length < 64
def GameF (Gp : T → Prop) (d : D) : Prop := ∃ t, Gp t ∧ d = T.data t
def plF (d : D) : D := T.data (plainV (ofD d))
/-- asked for who: a no better than b -/
def Pb (Pr : T → T → Prop) (a b : T) (v : Int) : Prop := if v = 0 then Pr a b else Pr b a
/-- what is asked while the moves of g that lead back are put away -/
def LedOk (Gm : T → Prop) (Pr : T → T → Prop) (g : T) (v : Int) : Prop := ∃ Md : T → Prop, (∀ m, m ∈ opt g v → Md m) ∧ ∀ m, Md m → Gm m ∧ ∀ a, a ∈ opt m (1 - v) → Pb Pr a g v ∧ ∀ x, x ∈ opt a v → Md x
structure PlOk (w : World) (Gm : T → Prop) (Pr : T → T → Prop) (Gp : T → Prop) : Prop where
  gm : GmOk w Gm Pr
  fam : FamOk w (GameF Gp)
  cl : ∀ t, Gp t → ∀ v x, x ∈ opt t v → Gp x
  bd : ∀ t, Gp t → isGm 20 t = true
  few : ∀ t, Gp t → ∀ v, (opt t v).length < 64
  here : ∀ t, Gp t → Gm (hereV t)
  kids : ∀ t, Gp t → ∀ v, v = 0 ∨ v = 1 → SetOk w ((opt t v).map plainV)
  led : ∀ t, Gp t → ∀ v, v = 0 ∨ v = 1 → ∃ fs, ledL 200 (hereV t) v (opt (hereV t) v) = some fs ∧ SetOk w fs
  ask : ∀ t, Gp t → ∀ v, v = 0 ∨ v = 1 → LedOk Gm Pr (hereV t) v
  two : ∀ t, Gp t → ∀ v, v = 0 ∨ v = 1 → (ledV (hereV t) v).Pairwise fun m o => Pb Pr m o v ∧ Pb Pr o m v
  best : ∀ t, Gp t → ∀ v, v = 0 ∨ v = 1 → SetOk w (bestV (ledV (hereV t) v) v)
abbrev plC (K : PySem.W.Frag) (w : World) (Gp : T → Prop) : MO := cch K w (GameF Gp) plF none
abbrev stP (K : PySem.W.Frag) (w : World) (Pr : T → T → Prop) (Gp : T → Prop) (C : Addr) : Mu := [.ins C pf, leC K w Pr, plC K w Gp]
section
variable (K : PySem.W.Frag) (w : World) (Gm : T → Prop) (Pr : T → T → Prop) (Gp : T → Prop) (C : Addr)
def RPInit (xs : List SV) (μ : Mu) (r : SV) (μ' : Mu) : Prop := xs = [.o 0] ∧ μ = [.ins C []] ∧ r = .d .none ∧ μ' = stP K w Pr Gp C
def RPBelow (xs : List SV) (μ : Mu) (r : SV) (μ' : Mu) : Prop := ∃ a b v, xs = [.o 0, .d (T.data a), .d (T.data b), .d (.int v)] ∧ μ = stP K w Pr Gp C ∧ Gm a ∧ Gm b ∧ Pb Pr a b v ∧ r = .d (.bool (belowV a b v)) ∧ μ' = μ
def wayD (g m : T) (v : Int) : D := match wayV g m v with
  | none => .none
  | some a => a.data
def RPWay (xs : List SV) (μ : Mu) (r : SV) (μ' : Mu) : Prop := ∃ g m v, xs = [.o 0, .d (T.data g), .d (T.data m), .d (.int v)] ∧ μ = stP K w Pr Gp C ∧ Gm g ∧ Gm m ∧ (∀ a, a ∈ opt m (1 - v) → Pb Pr a g v) ∧ (v = 0 ∨ v = 1) ∧ r = .d (wayD g m v) ∧ μ' = μ
def RPLed (xs : List SV) (μ : Mu) (r : SV) (μ' : Mu) : Prop := ∃ g v fs, xs = [.o 0, .d (T.data g), .d (.int v)] ∧ μ = stP K w Pr Gp C ∧ Gm g ∧ LedOk Gm Pr g v ∧ (v = 0 ∨ v = 1) ∧ ledL 200 g v (opt g v) = some fs ∧ SetOk w fs ∧ r = .d (.list ((ledV g v).map T.data)) ∧ μ' = μ
def RPBest (xs : List SV) (μ : Mu) (r : SV) (μ' : Mu) : Prop := ∃ ms v, xs = [.o 0, .d (.list (ms.map T.data)), .d (.int v)] ∧ μ = stP K w Pr Gp C ∧ (∀ m ∈ ms, Gm m) ∧ (ms.Pairwise fun m o => Pb Pr m o v ∧ Pb Pr o m v) ∧ ms.length < 64 ∧ r = .d (.list ((bestV ms v).map T.data)) ∧ μ' = μ
def RPPlain (N : Nat) (xs : List SV) (μ : Mu) (r : SV) (μ' : Mu) : Prop := ∃ t n, xs = [.o 0, .d (T.data t)] ∧ μ = stP K w Pr Gp C ∧ Gp t ∧ isGm n t = true ∧ n < N ∧ n ≤ 20 ∧ r = .d (T.data (plainV t)) ∧ μ' = μ
def RPlainF (ds : List D) (r : D) : Prop := ∃ t, ds = [T.data t] ∧ Gp t ∧ r = T.data (plainV t)
end
section
variable {K : PySem.W.Frag} {w : World} {Pr : T → T → Prop} {Gp : T → Prop} {C : Addr}
theorem seenP {μ : Mu} (h0 : μ[0]? = some (.ins C pf)) (h1 : μ[1]? = some (leC K w Pr)) (h2 : μ[2]? = some (plC K w Gp)) : seen [0, 1, 2] μ (stP K w Pr Gp C) := by
  refine ⟨rfl, fun j m' hj => ⟨?_, rfl⟩⟩
  rcases j with _ | _ | _ | j
  · cases hj
    exact h0
  · cases hj
    exact h1
  · cases hj
    exact h2
  · simp at hj
/-- a call of a method of a Plainer: cells 0, 1, 2 -/
theorem ex_pm1 {R : List SV → Mu → SV → Mu → Prop} {ρ : Rx} {μ0 μ : Mu} {ta : TA} {to : TE} {m : Str} {ds : List D} {d : D} (ho : EX K to ρ μ0 (.o 0) μ) (h0 : μ[0]? = some (.ins C pf)) (h1 : μ[1]? = some (leC K w Pr)) (h2 : μ[2]? = some (plC K w Gp))
    (m1 : (m == "known") = false) (m2 : (m == "plains") = false) (ha : EXs K ta ρ μ (ds.map .d) μ) (hr : R (.o 0 :: ds.map .d) (stP K w Pr Gp C) (.d d) (stP K w Pr Gp C)) :
    EX K (tMeth C m (SpM K R) [] E0 to ta) ρ μ0 (.d d) μ := by
  have l2 := (List.getElem?_eq_some_iff.mp h2).1
  have e1 : (ds.map SV.d).map (renS [0, 1, 2] μ.length) = ds.map SV.d := by
    rw [List.map_map]
    exact List.map_congr_left fun _ _ => rfl
  have h := ex_methM (K := K) (E := E0) (R := R) (x := .o 0) (xs := ds.map .d) (ta := ta) (to := to) (ρ := ρ) (n := 0) (C := C) (fs := pf) (m := m) (μ0 := μ0) (μ := μ) (μ1 := μ) [0, 1, 2] ho h0 (lk_noP m1 m2) rfl (by rw [e1]; exact ha) (by decide) (fun n hn => by
    simp only [List.mem_cons, List.not_mem_nil, or_false] at hn
    omega) (seenP h0 h1 h2) (fun y hy => by
    rcases List.mem_cons.mp hy with rfl | hy
    · exact Nat.succ_pos 2
    · obtain ⟨d, _, rfl⟩ := List.mem_map.mp hy
      exact True.intro) hr
  refine ex_mu h ?_
  unfold back
  rw [show ((stP K w Pr Gp C).drop ([0, 1, 2] : List Nat).length).map (renM [0, 1, 2] μ.length) = [] from rfl, List.append_nil]
  refine List.ext_getElem? fun k => ?_
  by_cases hk : k < μ.length
  · rw [List.getElem?_map, List.getElem?_range hk]
    rcases k with _ | _ | _ | k
    · rw [h0]; rfl
    · rw [h1]; rfl
    · rw [h2]; rfl
    · have e : posN (k + 3) [0, 1, 2] = none := by
        simp [posN]
      simp only [Option.map_some, e]
      rw [List.getD_eq_getElem?_getD, List.getElem?_eq_getElem hk]; rfl
  · rw [List.getElem?_eq_none (by rw [List.length_map, List.length_range]; omega), List.getElem?_eq_none (by omega)]
theorem ex_pm {R : List SV → Mu → SV → Mu → Prop} {ρ : Rx} {μ : Mu} {ta : TA} {i : Nat} {m : Str} {ds : List D} {d : D} (hi : ρ[i]? = some (some (.o 0))) (h0 : μ[0]? = some (.ins C pf)) (h1 : μ[1]? = some (leC K w Pr)) (h2 : μ[2]? = some (plC K w Gp))
    (m1 : (m == "known") = false) (m2 : (m == "plains") = false) (ha : EXs K ta ρ μ (ds.map .d) μ) (hr : R (.o 0 :: ds.map .d) (stP K w Pr Gp C) (.d d) (stP K w Pr Gp C)) :
    EX K (tMeth C m (SpM K R) [] E0 (tVar i) ta) ρ μ (.d d) μ := ex_pm1 (ex_var hi) h0 h1 h2 m1 m2 ha hr
theorem ex_pm0 {R : List SV → Mu → SV → Mu → Prop} {ρ : Rx} {μ0 : Mu} {ta : TA} {to : TE} {m : Str} {ds : List D} {d : D} (ho : EX K to ρ μ0 (.o 0) (stP K w Pr Gp C)) (m1 : (m == "known") = false) (m2 : (m == "plains") = false) (ha : EXs K ta ρ (stP K w Pr Gp C) (ds.map .d) (stP K w Pr Gp C)) (hr : R (.o 0 :: ds.map .d) (stP K w Pr Gp C) (.d d) (stP K w Pr Gp C)) :
    EX K (tMeth C m (SpM K R) [] E0 to ta) ρ μ0 (.d d) (stP K w Pr Gp C) := ex_pm1 ho rfl rfl rfl m1 m2 ha hr
end
/-! ### Plainer___init__ -/
abbrev sPlainerInit : Stmt := inClass (topS 5) 0
abbrev nPlainerInit : List Str := ["self"]
theorem scPlainerInit : FnScope nPlainerInit ["self"] (defScope sPlainerInit) := ⟨rfl, rfl, rfl, by decide +kernel, rfl, by decide +kernel, by decide +kernel⟩
section
variable {P : Program} {w : World} {K : PySem.W.Frag} {mg : Str → Option Value} {base : Heap} {f C : Addr} {fd : FuncData} {k j : Nat} {Gm : T → Prop} {Pr : T → T → Prop} {Gp : T → Prop}
theorem fn_Plainer_init (B : BI mg) (Z : PFacts K C) (F : Fun K "__init__" "Plainer.__init__" sPlainerInit f fd) : FnOk P w K mg base CX0 (k + 1) f fd ["self"] (SpM K (RPInit K w Pr Gp C)) := by
  refine fn_ofM F scPlainerInit (by decide) (fun xs μ r μ' h => by obtain ⟨rfl, _⟩ := h; rfl) (fun cdv A outer s H E hr => ⟨_, (pss_cons (ps_fldK K rfl (pv 0) (pe_dnewNK w rfl) (by rfl))
    (pss_one (ps_fldK K rfl (pv 0) (pe_dnewNK w rfl) (by rfl)))), fun xs μ r μ' h => ?_⟩)
  try dsimp only [cxOf, Cx.nox, Cx.wish]
  obtain ⟨rfl, rfl, rfl, rfl⟩ := h
  refine .inr ⟨rfl, [some (.o 0)], ?_⟩
  refine xm_out (xm_seq (xm_fld (n := 0) (ex_newN (Fam := PairF Pr) (F := leF)) rfl rfl Z.cl Z.nK (by show 0 < 1000; decide)) (xm_fld (n := 0) (ex_newN (Fam := GameF Gp) (F := plF)) rfl rfl Z.cl Z.nP (by show 1 < 1000; decide))) ?_
  show OutX.nx _ [.ins C (putS "plains" _ (putS "known" _ [])), _, _] = _
  rw [put_pf]
  rfl
end
/-! ### Plainer_is_below -/
abbrev sPlainerIsBelow : Stmt := inClass (topS 5) 1
abbrev nPlainerIsBelow : List Str := ["self", "one", "other", "who"]
theorem scPlainerIsBelow : FnScope nPlainerIsBelow ["self", "one", "other", "who"] (defScope sPlainerIsBelow) := ⟨rfl, rfl, rfl, by decide +kernel, rfl, by decide +kernel, by decide +kernel⟩
section
variable {P : Program} {w : World} {K : PySem.W.Frag} {mg : Str → Option Value} {base : Heap} {f C : Addr} {fd : FuncData} {k j : Nat} {Gm : T → Prop} {Pr : T → T → Prop} {Gp : T → Prop}
theorem fn_Plainer_is_below (B : BI mg) (Q : PlOk w Gm Pr Gp) (Z : PFacts K C) (F : Fun K "is_below" "Plainer.is_below" sPlainerIsBelow f fd) (h_at_most_in : Has P w K mg base k "at_most_in" (SpM K (RAtMost K w Pr 41))) : FnOk P w K mg base CX0 (k + 1) f fd ["self", "one", "other", "who"] (SpM K (RPBelow K w Gm Pr Gp C)) := by
  refine fn_ofM F scPlainerIsBelow (by decide) (fun xs μ r μ' h => by obtain ⟨_, _, _, rfl, _⟩ := h; rfl) (fun cdv A outer s H E hr => ⟨_, (pss_cons (ps_if (pt_cmpR (op_eqK K rfl (hu64 hr)) (pv 3) pe_int (nomark _)) (pss_one (ps_ret (pe_h h_at_most_in hr (by omega) (by rfl) (pa_cons (pv 1) (pa_cons (pv 2) (pa_cons (pe_fldK K rfl (pv 0) (by rfl)) pa_nil)))))) pss_nil)
    (pss_one (ps_ret (pe_h h_at_most_in hr (by omega) (by rfl) (pa_cons (pv 2) (pa_cons (pv 1) (pa_cons (pe_fldK K rfl (pv 0) (by rfl)) pa_nil))))))), fun xs μ r μ' h => ?_⟩)
  try dsimp only [cxOf, Cx.nox, Cx.wish]
  obtain ⟨a, b, v, rfl, rfl, ga, gb, pb, rfl, rfl⟩ := h
  unfold Pb at pb
  refine .inl ?_
  refine (show XM K _ [some (.o 0), some (.d a.data), some (.d b.data), some (.d (.int v))] _ _ from ?_)
  unfold belowV
  by_cases hv : v = 0
  · rw [if_pos hv] at pb ⊢
    refine xm_seq_rt (xm_ifT2 (b := decide (v = 0)) (tx_pure (et_test (ed_op (ed_var rfl) ed_int rd_eqI))) (decide_eq_true hv) (xm_ret ?_))
    exact ex_atm (N := 41) (i := 1) pb (Q.gm.bd a ga) (Q.gm.bd b gb) (by decide) (by decide) (by decide) rfl (exs_cons (ex_var rfl) (exs_cons (ex_var rfl) (exs_cons (ex_self (n := 0) rfl rfl Z.cl Z.nK lk_known) exs_nil)))
  · rw [if_neg hv] at pb ⊢
    refine xm_seq (xm_ifF2 (b := decide (v = 0)) (tx_pure (et_test (ed_op (ed_var rfl) ed_int rd_eqI))) (decide_eq_false hv) xm_next) (xm_ret ?_)
    exact ex_atm (N := 41) (i := 1) pb (Q.gm.bd b gb) (Q.gm.bd a ga) (by decide) (by decide) (by decide) rfl (exs_cons (ex_var rfl) (exs_cons (ex_var rfl) (exs_cons (ex_self (n := 0) rfl rfl Z.cl Z.nK lk_known) exs_nil)))
end
/-! ### Plainer_way_back -/
abbrev sPlainerWayBack : Stmt := inClass (topS 5) 2
abbrev nPlainerWayBack : List Str := ["self", "game", "move", "who", "answer"]
theorem scPlainerWayBack : FnScope nPlainerWayBack ["self", "game", "move", "who"] (defScope sPlainerWayBack) := ⟨rfl, rfl, rfl, by decide +kernel, rfl, by decide +kernel, by decide +kernel⟩
section
variable {P : Program} {w : World} {K : PySem.W.Frag} {mg : Str → Option Value} {base : Heap} {f C : Addr} {fd : FuncData} {k j : Nat} {Gm : T → Prop} {Pr : T → T → Prop} {Gp : T → Prop}
/-- a find's place -/
theorem find_at {α : Type} {p : α → Bool} : ∀ {l : List α} {x : α}, l.find? p = some x → ∃ m, l[m]? = some x ∧ p x = true ∧ ∀ (i : Nat) (y : α), i < m → l[i]? = some y → p y = false
  | [], _, h => by cases h
  | a :: l, x, h => by
    rw [List.find?_cons] at h
    cases c : p a with
    | true =>
      rw [c] at h
      cases h
      exact ⟨0, rfl, c, fun i _ hi => absurd hi (Nat.not_lt_zero i)⟩
    | false =>
      rw [c] at h
      obtain ⟨m, h1, h2, h3⟩ := find_at h
      refine ⟨m + 1, h1, h2, fun i y hi hy => ?_⟩
      cases i with
      | zero => cases hy; exact c
      | succ i => exact h3 i y (by omega) hy
theorem fn_Plainer_way_back (B : BI mg) (Q : PlOk w Gm Pr Gp) (Z : PFacts K C) (F : Fun K "way_back" "Plainer.way_back" sPlainerWayBack f fd) (h_Plainer_is_below : HasM P w K mg base k C "is_below" (SpM K (RPBelow K w Gm Pr Gp C))) : FnOk P w K mg base CX0 (k + 1) f fd ["self", "game", "move", "who"] (SpM K (RPWay K w Gm Pr Gp C)) := by
  have cl_Plainer := Z.cl
  refine fn_ofM F scPlainerWayBack (by decide) (fun xs μ r μ' h => by obtain ⟨_, _, _, rfl, _⟩ := h; rfl) (fun cdv A outer s H E hr => ⟨_, (pss_cons (ps_for PassesOwn.never rfl (pi_tupK K rfl (pe_ix (ix_K K rfl) (pv 2) (pe_op op_sub pe_int (pv 3)) (fun _ _ => rfl))) (pg_name (i := 4) scPlainerWayBack.nd rfl (by first | exact .inl rfl | exact .inr rfl)) (pss_one (ps_if (pt_val (pe_hm h_Plainer_is_below cl_Plainer hr (by omega) (pv 0) (pa_cons (pv 4) (pa_cons (pv 1) (pa_cons (pv 3) pa_nil))))) (pss_one (ps_ret (pv 4))) pss_nil)))
    (pss_one (ps_ret pe_non))), fun xs μ r μ' h => ?_⟩)
  try dsimp only [cxOf, Cx.nox, Cx.wish]
  obtain ⟨g, m, v, rfl, rfl, gg, gm, pb, hv, rfl, rfl⟩ := h
  obtain ⟨lm, em, hm⟩ := opt_data (Q.gm.bd m gm) (w := 1 - v) (by omega)
  have fm := Q.gm.few m gm (1 - v)
  have less : ∀ (y : Option SV) (i : Nat) (x : SV), ([some (.o 0), some (.d g.data), some (.d m.data), some (.d (.int v)), none] : Rx)[i]? = some (some x) → ([some (.o 0), some (.d g.data), some (.d m.data), some (.d (.int v)), y] : Rx)[i]? = some (some x) ∧ okV 3 x := fun y i x h => by
    rcases i with _ | _ | _ | _ | _ | i
    · cases h; exact ⟨rfl, Nat.succ_pos 2⟩
    · cases h; exact ⟨rfl, trivial⟩
    · cases h; exact ⟨rfl, trivial⟩
    · cases h; exact ⟨rfl, trivial⟩
    all_goals simp at h
  have ask : ∀ a : T, a ∈ opt m (1 - v) → TX K (tB (tMeth C "is_below" (SpM K (RPBelow K w Gm Pr Gp C)) [] E0 (tVar 0) (tCons (tVar 4) (tCons (tVar 1) (tCons (tVar 3) tNil))))) [some (.o 0), some (.d g.data), some (.d m.data), some (.d (.int v)), some (.d a.data)] (stP K w Pr Gp C) (belowV a g v) (stP K w Pr Gp C) := fun a ha =>
    tx_B (ex_pm (R := RPBelow K w Gm Pr Gp C) (i := 0) (m := "is_below") (ds := [a.data, g.data, .int v]) rfl rfl rfl rfl (by decide +kernel) (by decide +kernel) (exs_cons (ex_var rfl) (exs_cons (ex_var rfl) (exs_cons (ex_var rfl) exs_nil))) ⟨a, g, v, rfl, rfl, Q.gm.cl m gm _ a ha, gg, pb a ha, rfl, rfl⟩)
  refine .inl ?_
  refine (show XM K _ [some (.o 0), some (.d g.data), some (.d m.data), some (.d (.int v)), none] _ _ from ?_)
  have src : EX K (tOp (rIx K) (tVar 2) (tOp (rI0 fun i j => .int (i - j)) (tC (.int 1)) (tVar 3))) [some (.o 0), some (.d g.data), some (.d m.data), some (.d (.int v)), none] (stP K w Pr Gp C) (.d (.tuple ((opt m (1 - v)).map T.data))) (stP K w Pr Gp C) :=
    ex_pure (ed_op (ed_var rfl) (ed_op ed_int (ed_var rfl) rd_sub) (rd_ixUT' em hm))
  have pass : ∀ (i : Nat) (a : T), (opt m (1 - v))[i]? = some a → belowV a g v = false → XM K (tIfS (tB (tMeth C "is_below" (SpM K (RPBelow K w Gm Pr Gp C)) [] E0 (tVar 0) (tCons (tVar 4) (tCons (tVar 1) (tCons (tVar 3) tNil))))) (tRet (tVar 4)) tNext) ([some (.o 0), some (.d g.data), some (.d m.data), some (.d (.int v)), some (.d a.data)] : Rx) (stP K w Pr Gp C) (.nx [some (.o 0), some (.d g.data), some (.d m.data), some (.d (.int v)), none] (stP K w Pr Gp C)) := fun i a ha hb =>
    xm_less (n := 3) (ρ1 := [some (.o 0), some (.d g.data), some (.d m.data), some (.d (.int v)), some (.d a.data)]) (μ1 := stP K w Pr Gp C) (xm_ifF2 (ask a (List.mem_of_getElem? ha)) hb xm_next) (Nat.le_refl _) rfl rfl (less _)
  have at_ : ∀ (i : Nat) (d : D), ((opt m (1 - v)).map T.data)[i]? = some d → ∃ a, (opt m (1 - v))[i]? = some a ∧ d = a.data := fun i d hd => by
    rw [List.getElem?_map] at hd
    obtain ⟨a, h1, h2⟩ := Option.map_eq_some_iff.mp hd
    exact ⟨a, h1, h2.symm⟩
  unfold wayD wayV
  cases c : (opt m (1 - v)).find? fun a => belowV a g v with
  | none =>
    refine xm_seq (ρ1 := [some (.o 0), some (.d g.data), some (.d m.data), some (.d (.int v)), none]) (μ1 := stP K w Pr Gp C) (xm_forT (fun _ => [some (.o 0), some (.d g.data), some (.d m.data), some (.d (.int v)), none]) (fun _ => stP K w Pr Gp C) src rfl rfl (GoX.all fun i d hd => ?_)) (xm_ret (ex_pure (d := .none) ed_non))
    obtain ⟨a, ha, rfl⟩ := at_ i d hd
    exact pass i a ha (by simpa using List.find?_eq_none.mp c a (List.mem_of_getElem? ha))
  | some a =>
    obtain ⟨q, h1, h2, h3⟩ := find_at c
    have lq := (List.getElem?_eq_some_iff.mp h1).1
    refine xm_seq_rt (xm_forT (fun _ => [some (.o 0), some (.d g.data), some (.d m.data), some (.d (.int v)), none]) (fun _ => stP K w Pr Gp C) src rfl rfl ⟨q, by rw [List.length_map]; omega, fun i d hi hd => ?_, .inr ⟨a.data, by rw [List.getElem?_map, h1]; rfl, .inl ⟨_, _, rfl, ?_⟩⟩⟩)
    · obtain ⟨b, hb, rfl⟩ := at_ i d hd
      exact pass i b hb (h3 i b hi hb)
    · exact xm_ifT2 (ask a (List.mem_of_getElem? h1)) h2 (xm_ret (ex_var rfl))
end
/-! ### game_by -/
abbrev sGameBy : Stmt := topS 3
abbrev nGameBy : List Str := ["lefts", "rights"]
theorem scGameBy : FnScope nGameBy ["lefts", "rights"] (defScope sGameBy) := ⟨rfl, rfl, rfl, by decide +kernel, rfl, by decide +kernel, by decide +kernel⟩
section
variable {P : Program} {w : World} {K : PySem.W.Frag} {mg : Str → Option Value} {base : Heap} {f : Addr} {fd : FuncData} {k j : Nat}
def RGameByA (w : World) (ds : List D) (r : D) : Prop := ∃ (ls rs : List T) (a b : D), ds = [a, b] ∧ (a = .list (ls.map T.data) ∨ a = .tuple (ls.map T.data)) ∧ (b = .list (rs.map T.data) ∨ b = .tuple (rs.map T.data)) ∧ SetOk w ls ∧ SetOk w rs ∧ r = (T.gm (T.set ls) (T.set rs)).data
theorem has_game_by (B : BI mg) (F : Fun K "game_by" "game_by" sGameBy f fd) (b : Binds K fd ["lefts", "rights"] []) (hm : mg "game_by" = some (.ref f)) : Has P w K mg base (k + 1) "game_by" (SpR K (RGameByA w)) := by
  refine has_of F b hm scGameBy (by decide) (fun ds r h => by obtain ⟨_, _, _, _, rfl, _⟩ := h; rfl) (fun cdv A outer s H E hr => ⟨_, (pss_one (ps_ret (pe_tup (pa_cons (pe_callTy (call_tupleK K rfl) (by rfl) B.tuple boot_tuple (pa_cons (pe_callB (cr_sortSetK K w rfl rfl rfl (hu80 hr)) (by rfl) B.sorted boot_sorted (pa_cons (pe_callTy (cr_setK K w rfl rfl rfl (hu20 hr)) (by rfl) B.set boot_set (pa_cons (pv 0) pa_nil)) pa_nil)) pa_nil)) (pa_cons (pe_callTy (call_tupleK K rfl) (by rfl) B.tuple boot_tuple (pa_cons (pe_callB (cr_sortSetK K w rfl rfl rfl (hu80 hr)) (by rfl) B.sorted boot_sorted (pa_cons (pe_callTy (cr_setK K w rfl rfl rfl (hu20 hr)) (by rfl) B.set boot_set (pa_cons (pv 1) pa_nil)) pa_nil)) pa_nil)) pa_nil))))), fun ds r h => ?_⟩)
  try dsimp only [cxOf, Cx.nox, Cx.wish]
  obtain ⟨ls, rs, a, b, rfl, ha, hb, l, r', rfl⟩ := h
  rw [T.gm_data]
  exact xd_ret (ed_tup (eds_cons (ed_cb (eds_cons (ed_el (el_sortSetA (ed_var rfl) ha l.ful l.dep l.ap l.few)) eds_nil) cd_tupL) (eds_cons (ed_cb (eds_cons (ed_el (el_sortSetA (ed_var rfl) hb r'.ful r'.dep r'.ap r'.few)) eds_nil) cd_tupL) eds_nil)) (by simp))
end
/-! ### best moves, step by step -/
def bestS (v : Int) (ms : List T) : Nat → List T
  | 0 => []
  | k + 1 => match ms[k]? with
    | some m => if (ms.drop (k + 1) ++ bestS v ms k).any (fun o => belowV m o v) then bestS v ms k else bestS v ms k ++ [m]
    | none => bestS v ms k
theorem bestS_len (v : Int) (ms : List T) : ∀ k, (bestS v ms k).length ≤ k
  | 0 => Nat.le_refl 0
  | k + 1 => by
    have := bestS_len v ms k
    unfold bestS
    split
    · split
      · omega
      · rw [List.length_append, List.length_singleton]; omega
    · omega
theorem bestS_mem (v : Int) (ms : List T) {x : T} : ∀ k, x ∈ bestS v ms k → x ∈ ms
  | 0, h => by cases h
  | k + 1, h => by
    unfold bestS at h
    split at h
    · rename_i m hm
      split at h
      · exact bestS_mem v ms k h
      · rcases List.mem_append.mp h with h | h
        · exact bestS_mem v ms k h
        · rw [List.mem_singleton.mp h]; exact List.mem_of_getElem? hm
    · exact bestS_mem v ms k h
theorem bestS_go (v : Int) (ms : List T) : ∀ (j k : Nat), k + j = ms.length → bestL v (ms.drop k) (bestS v ms k) = bestS v ms ms.length
  | 0, k, h => by
    have e : ms.drop k = [] := List.drop_eq_nil_of_le (by omega)
    rw [e, show k = ms.length by omega]
    rfl
  | j + 1, k, h => by
    have lk : k < ms.length := by omega
    have e1 : ms[k]? = some ms[k] := List.getElem?_eq_getElem lk
    rw [List.drop_eq_getElem_cons lk]
    unfold bestL
    rw [← bestS_go v ms j (k + 1) (by omega)]
    congr 1
    conv => rhs; unfold bestS
    rw [e1]
theorem bestV_eq (ms : List T) (v : Int) : bestV ms v = bestS v ms ms.length := by
  rw [← bestS_go v ms ms.length 0 (by omega)]
  rfl
/-- [.. for t in trees], the elements trees -/
theorem ex_treesT {K : PySem.W.Frag} {ρ : Rx} {μ μ1 : Mu} {tl te : TE} {j : Nat} {l : List T} (g : T → T) (hsrc : EX K tl ρ μ (.d (.tuple (l.map T.data))) μ1) (he : ∀ t ∈ l, EX K te ((wipeX ρ [j]).set j (some (.d t.data))) μ1 (.d (g t).data) μ1) (hz : l.length ≤ 50000 := by omega) :
    EX K (tLc (iTup K tl) (gName j) tYes te [j]) ρ μ (.d (.list ((l.map g).map T.data))) μ1 := by
  have h := ex_mapT (K := K) (te := te) (j := j) (fun d => (g (ofD d)).data) hsrc (fun d hd => by
    obtain ⟨t, ht, rfl⟩ := List.mem_map.mp hd
    rw [ofD_data]
    exact he t ht) (by rw [List.length_map]; exact hz)
  refine ex_is h ?_
  rw [List.map_map, List.map_map]
  congr 2
  exact List.map_congr_left fun t _ => by show (g (ofD t.data)).data = _; rw [ofD_data]; rfl
theorem bestS_take (v : Int) (ms : List T) {x : T} : ∀ k, x ∈ bestS v ms k → x ∈ ms.take k
  | 0, h => by cases h
  | k + 1, h => by
    unfold bestS at h
    have up : x ∈ ms.take k → x ∈ ms.take (k + 1) := fun h => by
      rw [List.take_add_one]
      exact List.mem_append_left _ h
    split at h
    · rename_i m hm
      split at h
      · exact up (bestS_take v ms k h)
      · rcases List.mem_append.mp h with h | h
        · exact up (bestS_take v ms k h)
        · rw [List.mem_singleton.mp h, List.take_add_one, hm]
          exact List.mem_append_right _ (List.mem_singleton.mpr rfl)
    · exact up (bestS_take v ms k h)
theorem best_pairs {Pr : T → T → Prop} {v : Int} {ms : List T} {i : Nat} {m o : T} (hp : ms.Pairwise fun m o => Pb Pr m o v ∧ Pb Pr o m v) (hm : ms[i]? = some m) (ho : o ∈ ms.drop (i + 1) ++ bestS v ms i) : Pb Pr m o v := by
  have li := (List.getElem?_eq_some_iff.mp hm).1
  rw [List.pairwise_iff_getElem] at hp
  rw [List.getElem?_eq_getElem li] at hm
  have em := Option.some.inj hm
  rcases List.mem_append.mp ho with h | h
  · obtain ⟨j, lj, e⟩ := List.mem_iff_getElem.mp h
    rw [List.getElem_drop] at e
    rw [List.length_drop] at lj
    have := (hp i (i + 1 + j) li (by omega) (by omega)).1
    rwa [em, e] at this
  · have h := bestS_take v ms i h
    obtain ⟨j, lj, e⟩ := List.mem_iff_getElem.mp h
    rw [List.getElem_take] at e
    rw [List.length_take] at lj
    have := (hp j i (by omega) li (by omega)).2
    rwa [em, e] at this
theorem led_gm {w : World} {Gm : T → Prop} {Pr : T → T → Prop} {Gp : T → Prop} (Q : PlOk w Gm Pr Gp) {g : T} {v : Int} : ∀ {f : Nat} {todo fs : List T}, ledL f g v todo = some fs → (∀ m ∈ todo, Gm m) → ∀ x ∈ fs, Gm x
  | 0, _, _, h, _, _, _ => by cases h
  | f + 1, [], fs, h, _, x, hx => by cases h; cases hx
  | f + 1, m :: rest, fs, h, hg, x, hx => by
    have gm := hg m List.mem_cons_self
    have gr : ∀ x ∈ rest, Gm x := fun x hx => hg x (List.mem_cons_of_mem _ hx)
    unfold ledL at h
    cases c : wayV g m v with
    | none =>
      rw [c] at h
      dsimp only at h
      obtain ⟨fs', h1, rfl⟩ := Option.map_eq_some_iff.mp h
      rcases List.mem_cons.mp hx with rfl | hx
      · exact gm
      · exact led_gm Q h1 gr x hx
    | some a =>
      rw [c] at h
      dsimp only at h
      have ga : Gm a := Q.gm.cl m gm _ a (List.mem_of_find?_eq_some c)
      exact led_gm Q h (fun y hy => (List.mem_append.mp hy).elim (gr y) (Q.gm.cl a ga v y)) x hx
/-! ### Plainer_led -/
abbrev sPlainerLed : Stmt := inClass (topS 5) 3
abbrev nPlainerLed : List Str := ["self", "game", "who", "todo", "found", "move", "answer"]
theorem scPlainerLed : FnScope nPlainerLed ["self", "game", "who"] (defScope sPlainerLed) := ⟨rfl, rfl, rfl, by decide +kernel, rfl, by decide +kernel, by decide +kernel⟩
section
variable {P : Program} {w : World} {K : PySem.W.Frag} {mg : Str → Option Value} {base : Heap} {f C : Addr} {fd : FuncData} {k j : Nat} {Gm : T → Prop} {Pr : T → T → Prop} {Gp : T → Prop}
theorem imms_Tm : ∀ l : List T, imms (l.map T.data) = true
  | [] => rfl
  | t :: l => by rw [List.map_cons, imms, data_im t, imms_Tm l]; rfl
abbrev stL (K : PySem.W.Frag) (w : World) (Pr : T → T → Prop) (Gp : T → Prop) (C : Addr) (todo found : List T) : Mu := stP K w Pr Gp C ++ [.lst (todo.map T.data), .lst (found.map T.data)]
abbrev rhL (g : T) (v : Int) : Rx := [some (.o 0), some (.d g.data), some (.d (.int v)), some (.o 3), some (.o 4), none, none]
def ledN (g : T) (v : Int) (m : T) (rest found : List T) : List T × List T := match wayV g m v with
  | none => (rest, found ++ [m])
  | some a => (rest ++ opt a v, found)
theorem led_loop (Q : PlOk w Gm Pr Gp) {Md : T → Prop} {tt : TT} {tu : TS} {g : T} {v : Int} (md : ∀ m, Md m → Gm m ∧ ∀ a, a ∈ opt m (1 - v) → Pb Pr a g v ∧ ∀ x, x ∈ opt a v → Md x) (ht : ∀ todo found, TX K tt (rhL g v) (stL K w Pr Gp C todo found) (!todo.isEmpty) (stL K w Pr Gp C todo found))
    (hb : ∀ m rest found, Md m → rest.length ≤ 20000 → found.length ≤ 300 → XM K tu (rhL g v) (stL K w Pr Gp C (m :: rest) found) (.nx (rhL g v) (stL K w Pr Gp C (ledN g v m rest found).1 (ledN g v m rest found).2))) :
    ∀ (f : Nat) (todo found fs : List T), ledL f g v todo = some fs → (∀ m ∈ todo, Md m) → todo.length + 64 * f ≤ 20000 → found.length + f ≤ 300 → ∃ n, WhX K tt tu n (rhL g v) (stL K w Pr Gp C todo found) (.nx (rhL g v) (stL K w Pr Gp C [] (found ++ fs)))
  | 0, _, _, _, h, _, _, _ => by cases h
  | f + 1, [], found, fs, h, _, _, _ => by
    cases h
    rw [List.append_nil]
    exact ⟨0, .stop (ht [] found)⟩
  | f + 1, m :: rest, found, fs, h, hg, hl, hf => by
    have gm := hg m List.mem_cons_self
    have gr : ∀ x ∈ rest, Md x := fun x hx => hg x (List.mem_cons_of_mem _ hx)
    rw [List.length_cons] at hl
    have hb := hb m rest found gm (by omega) (by omega)
    have t0 := ht (m :: rest) found
    unfold ledL at h
    unfold ledN at hb
    cases c : wayV g m v with
    | none =>
      rw [c] at h hb
      dsimp only at h hb
      obtain ⟨fs', h1, rfl⟩ := Option.map_eq_some_iff.mp h
      obtain ⟨n, h2⟩ := led_loop Q md ht ‹_› f rest (found ++ [m]) fs' h1 gr (by omega) (by rw [List.length_append, List.length_singleton]; omega)
      rw [List.append_assoc] at h2
      exact ⟨n + 1, .step t0 hb h2⟩
    | some a =>
      rw [c] at h hb
      dsimp only at h hb
      have ma := List.mem_of_find?_eq_some c
      have ga : Gm a := Q.gm.cl m (md m gm).1 _ a ma
      have fa := Q.gm.few a ga v
      obtain ⟨n, h2⟩ := led_loop Q md ht ‹_› f (rest ++ opt a v) found fs h (fun x hx => (List.mem_append.mp hx).elim (gr x) (((md m gm).2 a ma).2 x)) (by rw [List.length_append]; omega) (by omega)
      exact ⟨n + 1, .step t0 hb h2⟩
theorem led_end (Q : PlOk w Gm Pr Gp) {Md : T → Prop} {tt : TT} {tu u : TS} {g : T} {v : Int} {fs : List T} {o : OutX} (md : ∀ m, Md m → Gm m ∧ ∀ a, a ∈ opt m (1 - v) → Pb Pr a g v ∧ ∀ x, x ∈ opt a v → Md x) (h : ledL 200 g v (opt g v) = some fs) (hg : ∀ m ∈ opt g v, Md m) (hl : (opt g v).length < 64) (ht : ∀ todo found, TX K tt (rhL g v) (stL K w Pr Gp C todo found) (!todo.isEmpty) (stL K w Pr Gp C todo found))
    (hb : ∀ m rest found, Md m → rest.length ≤ 20000 → found.length ≤ 300 → XM K tu (rhL g v) (stL K w Pr Gp C (m :: rest) found) (.nx (rhL g v) (stL K w Pr Gp C (ledN g v m rest found).1 (ledN g v m rest found).2)))
    (k : XM K u (rhL g v) (stL K w Pr Gp C [] fs) o) : XM K (tSeq (tWhile tt tu) u) (rhL g v) (stL K w Pr Gp C (opt g v) []) o := by
  obtain ⟨n, h2⟩ := led_loop Q md ht hb 200 (opt g v) [] fs h hg (by omega) (by simp)
  exact xm_seq (xm_wh h2) k
theorem fn_Plainer_led (B : BI mg) (Q : PlOk w Gm Pr Gp) (Z : PFacts K C) (F : Fun K "led" "Plainer.led" sPlainerLed f fd) (h_Plainer_way_back : HasM P w K mg base k C "way_back" (SpM K (RPWay K w Gm Pr Gp C))) : FnOk P w K mg base CX0 (k + 1) f fd ["self", "game", "who"] (SpM K (RPLed K w Gm Pr Gp C)) := by
  have cl_Plainer := Z.cl
  refine fn_ofM F scPlainerLed (by decide) (fun xs μ r μ' h => by obtain ⟨_, _, _, rfl, _⟩ := h; rfl) (fun cdv A outer s H E hr => ⟨_, (pss_cons (ps_set (i := 3) scPlainerLed.nd rfl (by first | exact .inl rfl | exact .inr rfl) (pe_callTy (call_listK K rfl) (by rfl) B.list boot_list (pa_cons (pe_ix (ix_K K rfl) (pv 1) (pv 2) (fun _ _ => rfl)) pa_nil)))
    (pss_cons (ps_set (i := 4) scPlainerLed.nd rfl (by first | exact .inl rfl | exact .inr rfl) (pe_lst pa_nil))
    (pss_cons (ps_while PassesOwn.never (pt_cmpR op_gt (pe_callB (call_lenK K rfl) (by rfl) B.len boot_len (pa_cons (pv 3) pa_nil)) pe_int (nomark _)) (pss_cons (ps_set (i := 5) scPlainerLed.nd rfl (by first | exact .inl rfl | exact .inr rfl) (pe_bmK K rfl (pe_bm PySem.F.plainAttrs_list PySem.F.slot_list_pop PySem.F.type_list_pop mt_popAt (pv 3) (pa_cons pe_int pa_nil))))
    (pss_cons (ps_set (i := 6) scPlainerLed.nd rfl (by first | exact .inl rfl | exact .inr rfl) (pe_hm h_Plainer_way_back cl_Plainer hr (by omega) (pv 0) (pa_cons (pv 1) (pa_cons (pv 5) (pa_cons (pv 2) pa_nil)))))
    (pss_one (ps_if (pt_cmpR op_isN (pv 6) pe_non (nomark _)) (pss_one (ps_expr (pe_bmK K rfl (pe_bm PySem.F.plainAttrs_list PySem.F.slot_list_append PySem.F.type_list_append mt_append (pv 4) (pa_cons (pv 5) pa_nil))))) (pss_one (ps_expr (pe_bmK K rfl (pe_bm PySem.F.plainAttrs_list PySem.F.slot_list_extend PySem.F.type_list_extend (mt_extK K rfl) (pv 3) (pa_cons (pe_ix (ix_K K rfl) (pv 6) (pv 2) (fun _ _ => rfl)) pa_nil))))))))))
    (pss_one (ps_ret (pe_callB (cr_sortSetK K w rfl rfl rfl (hu80 hr)) (by rfl) B.sorted boot_sorted (pa_cons (pe_callTy (cr_setK K w rfl rfl rfl (hu20 hr)) (by rfl) B.set boot_set (pa_cons (pv 4) pa_nil)) pa_nil))))))), fun xs μ r μ' h => ?_⟩)
  try dsimp only [cxOf, Cx.nox, Cx.wish]
  obtain ⟨g, v, fs, rfl, rfl, gg, ⟨Md, md0, md⟩, hv, hl, hS, rfl, rfl⟩ := h
  obtain ⟨lg, eg, hg⟩ := opt_data (Q.gm.bd g gg) hv
  have fg := Q.gm.few g gg v
  refine .inl (xm_lessR (n := 3) (μ1 := stL K w Pr Gp C [] fs) ?_ (Nat.le_refl _) rfl trivial)
  refine (show XM K _ [some (.o 0), some (.d g.data), some (.d (.int v)), none, none, none, none] _ _ from ?_)
  refine xm_seq (xm_asg (ex_cell (ds := (opt g v).map T.data) (el_cb (eds_cons (ed_op (ed_var rfl) (ed_var rfl) (rd_ixUT' eg hg)) eds_nil) cl_lstT) (imms_Tm _))) ?_
  refine xm_seq (xm_asg (ex_cell (ds := []) (el_lst eds_nil) rfl)) ?_
  refine (show XM K _ (rhL g v) (stL K w Pr Gp C (opt g v) []) _ from ?_)
  refine led_end Q md hl (fun m hm => md0 m hm) fg (fun todo found => ?_) (fun m rest found mm lr lf => ?_) ?_
  · refine tx_is (tx_view (et_test (ed_op (ed_cb (eds_cons (ed_var rfl) eds_nil) cd_lenL) ed_int rd_gtI))) ?_
    cases todo with
    | nil => rfl
    | cons x l => simp
  · have gm := (md m mm).1
    refine xm_less (n := 5) (ρ1 := [some (.o 0), some (.d g.data), some (.d (.int v)), some (.o 3), some (.o 4), some (.d m.data), some (.d (wayD g m v))]) (μ1 := stL K w Pr Gp C (ledN g v m rest found).1 (ledN g v m rest found).2) ?_ (Nat.le_refl _) rfl rfl (fun i x h => ?_)
    · refine xm_seq (xm_asg (ex_pop0 (n := 3) (d := m.data) (ds := rest.map T.data) rfl rfl (ex_pure ed_int))) ?_
      refine (show XM K _ [some (.o 0), some (.d g.data), some (.d (.int v)), some (.o 3), some (.o 4), some (.d m.data), none] (stL K w Pr Gp C rest found) _ from ?_)
      refine xm_seq (xm_asg (ex_pm (R := RPWay K w Gm Pr Gp C) (i := 0) (m := "way_back") (ds := [g.data, m.data, .int v]) (d := wayD g m v) rfl rfl rfl rfl (by decide +kernel) (by decide +kernel) (exs_cons (ex_var rfl) (exs_cons (ex_var rfl) (exs_cons (ex_var rfl) exs_nil))) ⟨g, m, v, rfl, rfl, gg, gm, fun a ha => ((md m mm).2 a ha).1, hv, rfl, rfl⟩)) ?_
      refine (show XM K _ [some (.o 0), some (.d g.data), some (.d (.int v)), some (.o 3), some (.o 4), some (.d m.data), some (.d (wayD g m v))] (stL K w Pr Gp C rest found) _ from ?_)
      unfold wayD ledN
      cases c : wayV g m v with
      | none =>
        refine xm_ifT2 (b := true) (tx_pure (et_test (ed_op (ed_var rfl) ed_non rd_isN))) rfl ?_
        refine xm_out (xm_app (n := 4) (ds := found.map T.data) rfl rfl (ex_var rfl) rfl (by rw [List.length_map]; omega)) ?_
        show OutX.nx _ _ = OutX.nx _ _
        rw [← List.map_singleton (f := T.data), ← List.map_append]
        rfl
      | some a =>
        have ga : Gm a := Q.gm.cl m gm _ a (List.mem_of_find?_eq_some c)
        have fa := Q.gm.few a ga v
        obtain ⟨la, ea, ha⟩ := opt_data (Q.gm.bd a ga) hv
        refine xm_ifF2 (b := isNone a.data) (tx_pure (et_test (ed_op (ed_var rfl) ed_non rd_isN))) (by rw [ea]; rfl) ?_
        refine xm_out (xm_ext (n := 3) (ds := rest.map T.data) (es := (opt a v).map T.data) rfl rfl (ex_pure (ed_op (ed_var rfl) (ed_var rfl) (rd_ixUT' ea ha))) rfl (.inr rfl) (by rw [List.length_map, List.length_map]; omega)) ?_
        show OutX.nx _ _ = OutX.nx _ _
        rw [← List.map_append]
        rfl
    · rcases i with _ | _ | _ | _ | _ | _ | _ | i
      · cases h; exact ⟨rfl, show 0 < 5 by decide⟩
      · cases h; exact ⟨rfl, trivial⟩
      · cases h; exact ⟨rfl, trivial⟩
      · cases h; exact ⟨rfl, show 3 < 5 by decide⟩
      · cases h; exact ⟨rfl, show 4 < 5 by decide⟩
      all_goals simp at h
  · refine xm_ret (ex_is (ex_viewL (el_sortSetA (ts := fs) (ed_var rfl) (.inl rfl) hS.ful hS.dep hS.ap hS.few) (imms_Tm _)) ?_)
    unfold ledV
    rw [hl]
    rfl
end
/-! ### Plainer_best -/
abbrev sPlainerBest : Stmt := inClass (topS 5) 4
abbrev nPlainerBest : List Str := ["self", "moves", "who", "found", "at", "move", "others", "other"]
theorem scPlainerBest : FnScope nPlainerBest ["self", "moves", "who"] (defScope sPlainerBest) := ⟨rfl, rfl, rfl, by decide +kernel, rfl, by decide +kernel, by decide +kernel⟩
section
variable {P : Program} {w : World} {K : PySem.W.Frag} {mg : Str → Option Value} {base : Heap} {f C : Addr} {fd : FuncData} {k j : Nat} {Gm : T → Prop} {Pr : T → T → Prop} {Gp : T → Prop}
abbrev stB (K : PySem.W.Frag) (w : World) (Pr : T → T → Prop) (Gp : T → Prop) (C : Addr) (found : List T) : Mu := stP K w Pr Gp C ++ [.lst (found.map T.data)]
theorem fn_Plainer_best (B : BI mg) (Q : PlOk w Gm Pr Gp) (Z : PFacts K C) (F : Fun K "best" "Plainer.best" sPlainerBest f fd) (h_Plainer_is_below : HasM P w K mg base k C "is_below" (SpM K (RPBelow K w Gm Pr Gp C))) : FnOk P w K mg base CX0 (k + 1) f fd ["self", "moves", "who"] (SpM K (RPBest K w Gm Pr Gp C)) := by
  have cl_Plainer := Z.cl
  refine fn_ofML F scPlainerBest (by decide) (fun xs μ r μ' h => by obtain ⟨_, _, rfl, _⟩ := h; rfl) (fun cdv A outer s H E hr => ⟨_, (pss_cons (ps_set (i := 3) scPlainerBest.nd rfl (by first | exact .inl rfl | exact .inr rfl) (pe_lst pa_nil))
    (pss_cons (ps_for PassesOwn.never rfl (pi_enumK K rfl (by rfl) B.enumerate (pa_cons (pv 1) pa_nil)) (pg_tupK K rfl (pg_tup (n := 2) rfl (pgs_cons (pg_name (i := 4) scPlainerBest.nd rfl (by first | exact .inl rfl | exact .inr rfl)) (pgs_cons (pg_name (i := 5) scPlainerBest.nd rfl (by first | exact .inl rfl | exact .inr rfl)) pgs_nil)))) (pss_cons (ps_set (i := 6) scPlainerBest.nd rfl (by first | exact .inl rfl | exact .inr rfl) (pe_op (op_addK K rfl) (pe_slice (sl_K K rfl) (pv 1) (po_some (pe_op (op_addK K rfl) (pv 4) pe_int)) po_none) (pv 3)))
    (pss_one (ps_if (pt_not (pt_val (pe_callB (cr_anyK K rfl rfl) (by rfl) B.any boot_any (pa_cons (pe_lc (own := [("other", 7)]) rfl scPlainerBest.nd (pi_listK K rfl (pv 6)) (blkOk_by (N := nPlainerBest) (sc := defScope sPlainerBest) (by decide +kernel)) (fun _ _ _ _ _ => (pg_name (i := 7) scPlainerBest.nd rfl (by first | exact .inl rfl | exact .inr rfl))) (fun _ _ _ _ _ => pts_nil) (fun _ _ _ _ _ => (pe_hm h_Plainer_is_below cl_Plainer hr (by omega) (pv 0) (pa_cons (pv 5) (pa_cons (pv 7) (pa_cons (pv 2) pa_nil)))))) pa_nil)))) (pss_one (ps_expr (pe_bmK K rfl (pe_bm PySem.F.plainAttrs_list PySem.F.slot_list_append PySem.F.type_list_append mt_append (pv 3) (pa_cons (pv 5) pa_nil))))) pss_nil))))
    (pss_one (ps_ret (pv 3))))), fun xs μ r μ' h => ?_⟩)
  try dsimp only [cxOf, Cx.nox, Cx.wish]
  obtain ⟨ms, v, rfl, rfl, hg, hp, hl, rfl, rfl⟩ := h
  refine ⟨(bestV ms v).map T.data, rfl, ?_, rfl, Nat.le_refl _⟩
  refine (show XM K _ [some (.o 0), some (.d (.list (ms.map T.data))), some (.d (.int v)), none, none, none, none, none] _ _ from ?_)
  refine xm_seq (xm_asg (ex_cell (ds := []) (el_lst eds_nil) rfl)) ?_
  refine (show XM K _ [some (.o 0), some (.d (.list (ms.map T.data))), some (.d (.int v)), some (.o 3), none, none, none, none] (stB K w Pr Gp C []) _ from ?_)
  rw [bestV_eq]
  refine xm_seq (ρ1 := [some (.o 0), some (.d (.list (ms.map T.data))), some (.d (.int v)), some (.o 3), none, none, none, none]) (μ1 := stB K w Pr Gp C (bestS v ms ms.length)) (xm_forEL (fun _ => [some (.o 0), some (.d (.list (ms.map T.data))), some (.d (.int v)), some (.o 3), none, none, none, none]) (fun i => stB K w Pr Gp C (bestS v ms i)) (exs_cons (ex_var rfl) exs_nil) rfl rfl ⟨ms.length, by rw [List.length_map]; exact Nat.le_refl _, fun i d hi hd => ?_, .inl ⟨by rw [List.length_map], rfl⟩⟩) (xm_ret (ex_var rfl))
  rw [List.getElem?_map] at hd
  obtain ⟨m, hm, rfl⟩ := Option.map_eq_some_iff.mp hd
  have gm := hg m (List.mem_of_getElem? hm)
  have ls := bestS_len v ms i
  have rest : ∀ x ∈ ms.drop (i + 1) ++ bestS v ms i, Gm x := fun x hx => by
    rcases List.mem_append.mp hx with h | h
    · exact hg x (List.mem_of_mem_drop h)
    · exact hg x (bestS_mem v ms i h)
  have pairs : ∀ o ∈ ms.drop (i + 1) ++ bestS v ms i, Pb Pr m o v := fun o ho => best_pairs hp hm ho
  have lr : (ms.drop (i + 1) ++ bestS v ms i).length ≤ 200 := by rw [List.length_append, List.length_drop]; omega
  refine xm_less (n := 4) (ρ1 := [some (.o 0), some (.d (.list (ms.map T.data))), some (.d (.int v)), some (.o 3), some (.d (.int (i : Int))), some (.d m.data), some (.d (.list ((ms.drop (i + 1) ++ bestS v ms i).map T.data))), none]) (μ1 := stB K w Pr Gp C (bestS v ms (i + 1))) ?_ (Nat.le_refl _) rfl rfl (fun i x h => ?_)
  · refine (show XM K _ [some (.o 0), some (.d (.list (ms.map T.data))), some (.d (.int v)), some (.o 3), some (.d (.int (i : Int))), some (.d m.data), none, none] (stB K w Pr Gp C (bestS v ms i)) _ from ?_)
    refine xm_seq (ρ1 := [some (.o 0), some (.d (.list (ms.map T.data))), some (.d (.int v)), some (.o 3), some (.d (.int (i : Int))), some (.d m.data), some (.d (.list ((ms.drop (i + 1) ++ bestS v ms i).map T.data))), none]) (μ1 := stB K w Pr Gp C (bestS v ms i)) (xm_asg (ex_is (ex_viewL (el_op (ed_el (el_slUL (ed_var rfl) (eo_some (ed_op (ed_var rfl) ed_int rd_addI)) eo_none)) (ed_var rfl) (rl_addL ?_)) ?_) ?_)) ?_
    · rw [show ((i : Int) + 1) = ((i + 1 : Nat) : Int) by omega, cut_from, ← List.map_drop, List.length_map, List.length_map, List.length_drop]; omega
    · rw [show ((i : Int) + 1) = ((i + 1 : Nat) : Int) by omega, cut_from, ← List.map_drop, ← List.map_append]
      exact imms_Tm _
    · rw [show ((i : Int) + 1) = ((i + 1 : Nat) : Int) by omega, cut_from, ← List.map_drop, ← List.map_append]
    · have ask : TX K _ [some (.o 0), some (.d (.list (ms.map T.data))), some (.d (.int v)), some (.o 3), some (.d (.int (i : Int))), some (.d m.data), some (.d (.list ((ms.drop (i + 1) ++ bestS v ms i).map T.data))), none] (stB K w Pr Gp C (bestS v ms i)) (!((ms.drop (i + 1) ++ bestS v ms i).any fun o => belowV m o v)) (stB K w Pr Gp C (bestS v ms i)) :=
        tx_not (tx_B (ex_anyL (j := 7) (l := ms.drop (i + 1) ++ bestS v ms i) (p := fun o => belowV m o v) (ex_var (i := 6) rfl) (fun o ho => ex_pm (R := RPBelow K w Gm Pr Gp C) (ta := tCons (tVar 5) (tCons (tVar 7) (tCons (tVar 2) tNil))) (i := 0) (m := "is_below") (ds := [m.data, o.data, .int v]) rfl rfl rfl rfl (by decide +kernel) (by decide +kernel) (exs_cons (ex_var rfl) (exs_cons (ex_var rfl) (exs_cons (ex_var rfl) exs_nil))) ⟨m, o, v, rfl, rfl, gm, rest o ho, pairs o ho, rfl, rfl⟩)))
      have st : bestS v ms (i + 1) = if (ms.drop (i + 1) ++ bestS v ms i).any (fun o => belowV m o v) then bestS v ms i else bestS v ms i ++ [m] := by
        conv => lhs; unfold bestS
        rw [hm]
      rw [st]
      cases c : (ms.drop (i + 1) ++ bestS v ms i).any fun o => belowV m o v with
      | true =>
        rw [c] at ask
        exact xm_ifF ask xm_next
      | false =>
        rw [c] at ask
        refine xm_ifT ask (xm_out (xm_app (n := 3) (ds := (bestS v ms i).map T.data) rfl rfl (ex_var rfl) rfl (by rw [List.length_map]; omega)) ?_)
        show OutX.nx _ _ = OutX.nx _ _
        rw [if_neg Bool.false_ne_true, ← List.map_singleton (f := T.data), ← List.map_append]
        rfl
  · rcases i with _ | _ | _ | _ | _ | _ | _ | _ | i
    · cases h; exact ⟨rfl, show 0 < 4 by decide⟩
    · cases h; exact ⟨rfl, trivial⟩
    · cases h; exact ⟨rfl, trivial⟩
    · cases h; exact ⟨rfl, show 3 < 4 by decide⟩
    all_goals simp at h
end
/-! ### Plainer_plain -/
abbrev sPlainerPlain : Stmt := inClass (topS 5) 5
abbrev nPlainerPlain : List Str := ["self", "game", "lefts", "other", "rights", "here", "moves", "who"]
theorem scPlainerPlain : FnScope nPlainerPlain ["self", "game"] (defScope sPlainerPlain) := ⟨rfl, rfl, rfl, by decide +kernel, rfl, by decide +kernel, by decide +kernel⟩
section
variable {P : Program} {w : World} {K : PySem.W.Frag} {mg : Str → Option Value} {base : Heap} {f C : Addr} {fd : FuncData} {k j : Nat} {Gm : T → Prop} {Pr : T → T → Prop} {Gp : T → Prop}
theorem gmF (t : T) (h : Gp t) : GameF Gp t.data := ⟨t, h, rfl⟩
theorem fn_Plainer_plain (B : BI mg) (Q : PlOk w Gm Pr Gp) (Z : PFacts K C) (F : Fun K "plain" "Plainer.plain" sPlainerPlain f fd) {N : Nat} (h_Plainer_plain : HasM P w K mg base k C "plain" (SpM K (RPPlain K w Pr Gp C N)))
    (h_Plainer_best : HasM P w K mg base k C "best" (SpM K (RPBest K w Gm Pr Gp C))) (h_Plainer_led : HasM P w K mg base k C "led" (SpM K (RPLed K w Gm Pr Gp C))) (h_game_by : Has P w K mg base k "game_by" (SpR K (RGameByA w))) : FnOk P w K mg base CX0 (k + 1) f fd ["self", "game"] (SpM K (RPPlain K w Pr Gp C (N + 1))) := by
  have cl_Plainer := Z.cl
  refine fn_ofM F scPlainerPlain (by decide) (fun xs μ r μ' h => by obtain ⟨_, _, rfl, _⟩ := h; rfl) (fun cdv A outer s H E hr => ⟨_, (pss_cons (ps_if (pt_cmpR (op_notInNK K w rfl rfl (hu64 hr)) (pv 1) (pe_fldK K rfl (pv 0) (by rfl)) (by with_unfolding_all rfl)) (pss_cons (ps_setLc (own := [("other", 3)]) rfl scPlainerPlain.nd (i := 2) rfl rfl (by rfl) (pi_tupK K rfl (pe_ix (ix_K K rfl) (pv 1) pe_int (fun _ _ => rfl))) (blkOk_by (N := nPlainerPlain) (sc := defScope sPlainerPlain) (by decide +kernel)) (fun _ _ _ _ _ => (pg_name (i := 3) scPlainerPlain.nd rfl (by first | exact .inl rfl | exact .inr rfl))) (fun _ _ _ _ _ => pts_nil) (fun _ _ _ _ _ => (pe_hm h_Plainer_plain cl_Plainer hr (by omega) (pv 0) (pa_cons (pv 3) pa_nil))))
    (pss_cons (ps_setLc (own := [("other", 3)]) rfl scPlainerPlain.nd (i := 4) rfl rfl (by rfl) (pi_tupK K rfl (pe_ix (ix_K K rfl) (pv 1) pe_int (fun _ _ => rfl))) (blkOk_by (N := nPlainerPlain) (sc := defScope sPlainerPlain) (by decide +kernel)) (fun _ _ _ _ _ => (pg_name (i := 3) scPlainerPlain.nd rfl (by first | exact .inl rfl | exact .inr rfl))) (fun _ _ _ _ _ => pts_nil) (fun _ _ _ _ _ => (pe_hm h_Plainer_plain cl_Plainer hr (by omega) (pv 0) (pa_cons (pv 3) pa_nil))))
    (pss_cons (ps_set (i := 5) scPlainerPlain.nd rfl (by first | exact .inl rfl | exact .inr rfl) (pe_h h_game_by hr (by omega) (by rfl) (pa_cons (pv 2) (pa_cons (pv 4) pa_nil))))
    (pss_cons (ps_setLc (own := [("who", 7)]) rfl scPlainerPlain.nd (i := 6) rfl rfl (by rfl) (pi_tupK K rfl (pe_tup (pa_cons pe_int (pa_cons pe_int pa_nil)))) (blkOk_by (N := nPlainerPlain) (sc := defScope sPlainerPlain) (by decide +kernel)) (fun _ _ _ _ _ => (pg_name (i := 7) scPlainerPlain.nd rfl (by first | exact .inl rfl | exact .inr rfl))) (fun _ _ _ _ _ => pts_nil) (fun _ _ _ _ _ => (pe_hm h_Plainer_best cl_Plainer hr (by omega) (pv 0) (pa_cons (pe_hm h_Plainer_led cl_Plainer hr (by omega) (pv 0) (pa_cons (pv 5) (pa_cons (pv 7) pa_nil))) (pa_cons (pv 7) pa_nil)))))
    (pss_one (ps_asg (pe_h h_game_by hr (by omega) (by rfl) (pa_cons (pe_ix (ix_K K rfl) (pv 6) pe_int (fun _ _ => rfl)) (pa_cons (pe_ix (ix_K K rfl) (pv 6) pe_int (fun _ _ => rfl)) pa_nil))) (pg_sub (pe_fldK K rfl (pv 0) (by rfl)) (pv 1) (set_NK K w rfl rfl (hu64 hr))))))))) pss_nil)
    (pss_one (ps_ret (pe_ix (ix_NK K w rfl rfl (hu64 hr)) (pe_fldK K rfl (pv 0) (by rfl)) (pv 1) (fun _ _ => rfl))))), fun xs μ r μ' h => ?_⟩)
  try dsimp only [cxOf, Cx.nox, Cx.wish]
  obtain ⟨t, n, rfl, rfl, gt, it, hN, hn, rfl, rfl⟩ := h
  obtain ⟨n, rfl⟩ : ∃ q, n = q + 1 := by
    cases n with
    | zero => cases it
    | succ n => exact ⟨n, rfl⟩
  obtain ⟨l0, e0, h0⟩ := opt_data it (w := 0) (.inl rfl)
  obtain ⟨l1, e1, h1⟩ := opt_data it (w := 1) (.inr rfl)
  have f0 := Q.few t gt 0
  have f1 := Q.few t gt 1
  have fk : GameF Gp t.data := gmF t gt
  have hh := Q.here t gt
  refine .inl ?_
  refine (show XM K _ [some (.o 0), some (.d t.data), none, none, none, none, none, none] _ _ from ?_)
  refine xm_seq (ρ1 := [some (.o 0), some (.d t.data), none, none, none, none, none, none]) (μ1 := (stP K w Pr Gp C).set 2 (cch K w (GameF Gp) plF (some t.data))) (xm_unless (n := 2) Q.fam (ex_var rfl) (ex_self (n := 0) rfl rfl Z.cl Z.nP lk_plains) rfl fk ?_) ?_
  · refine xm_less (n := 3) (ρ1 := [some (.o 0), some (.d t.data), some (.d (.list (((opt t 0).map plainV).map T.data))), none, some (.d (.list (((opt t 1).map plainV).map T.data))), some (.d (hereV t).data), some (.d (.list [.list ((bestV (ledV (hereV t) 0) 0).map T.data), .list ((bestV (ledV (hereV t) 1) 1).map T.data)])), none]) (μ1 := (stP K w Pr Gp C).set 2 (cch K w (GameF Gp) plF (some t.data))) ?_ (Nat.le_refl _) rfl rfl (fun i x h => ?_)
    · refine xm_seq (ρ1 := [some (.o 0), some (.d t.data), some (.d (.list (((opt t 0).map plainV).map T.data))), none, none, none, none, none]) (μ1 := stP K w Pr Gp C) (xm_asg (ex_treesT (l := opt t 0) plainV (ex_pure (ed_op (ed_var rfl) ed_int (rd_ixUT' e0 h0))) (fun x hx => ?_))) ?_
      · exact ex_pm (R := RPPlain K w Pr Gp C N) (i := 0) (m := "plain") (ds := [x.data]) rfl rfl rfl rfl (by decide +kernel) (by decide +kernel) (exs_cons (ex_var rfl) exs_nil) ⟨x, n, rfl, rfl, Q.cl t gt 0 x hx, gm_opt it hx, by omega, by omega, rfl, rfl⟩
      refine xm_seq (ρ1 := [some (.o 0), some (.d t.data), some (.d (.list (((opt t 0).map plainV).map T.data))), none, some (.d (.list (((opt t 1).map plainV).map T.data))), none, none, none]) (μ1 := stP K w Pr Gp C) (xm_asg (ex_treesT (l := opt t 1) plainV (ex_pure (ed_op (ed_var rfl) ed_int (rd_ixUT' e1 h1))) (fun x hx => ?_))) ?_
      · exact ex_pm (R := RPPlain K w Pr Gp C N) (i := 0) (m := "plain") (ds := [x.data]) rfl rfl rfl rfl (by decide +kernel) (by decide +kernel) (exs_cons (ex_var rfl) exs_nil) ⟨x, n, rfl, rfl, Q.cl t gt 1 x hx, gm_opt it hx, by omega, by omega, rfl, rfl⟩
      refine xm_seq (ρ1 := [some (.o 0), some (.d t.data), some (.d (.list (((opt t 0).map plainV).map T.data))), none, some (.d (.list (((opt t 1).map plainV).map T.data))), some (.d (hereV t).data), none, none]) (μ1 := stP K w Pr Gp C) (xm_asg (ex_pure (ed_call (eds_cons (ed_var rfl) (eds_cons (ed_var rfl) eds_nil)) ⟨(opt t 0).map plainV, (opt t 1).map plainV, _, _, rfl, .inl rfl, .inl rfl, Q.kids t gt 0 (.inl rfl), Q.kids t gt 1 (.inr rfl), rfl⟩))) ?_
      have bestE : ∀ v : Int, v = 0 ∨ v = 1 → EX K (tMeth C "best" (SpM K (RPBest K w Gm Pr Gp C)) [] E0 (tVar 0) (tCons (tMeth C "led" (SpM K (RPLed K w Gm Pr Gp C)) [] E0 (tVar 0) (tCons (tVar 5) (tCons (tVar 7) tNil))) (tCons (tVar 7) tNil))) [some (.o 0), some (.d t.data), some (.d (.list (((opt t 0).map plainV).map T.data))), none, some (.d (.list (((opt t 1).map plainV).map T.data))), some (.d (hereV t).data), none, some (.d (.int v))] (stP K w Pr Gp C) (.d (.list ((bestV (ledV (hereV t) v) v).map T.data))) (stP K w Pr Gp C) := fun v hv => by
        obtain ⟨fs, hl, hS⟩ := Q.led t gt v hv
        have el : ledV (hereV t) v = T.set fs := by unfold ledV; rw [hl]; rfl
        have gl : ∀ x ∈ ledV (hereV t) v, Gm x := fun x hx => led_gm Q hl (fun m hm => Q.gm.cl _ hh v m hm) x (by rw [el] at hx; exact T.mem_set.mp hx)
        exact ex_pm (R := RPBest K w Gm Pr Gp C) (i := 0) (m := "best") (ds := [.list ((ledV (hereV t) v).map T.data), .int v]) rfl rfl rfl rfl (by decide +kernel) (by decide +kernel)
          (exs_cons (ex_pm (R := RPLed K w Gm Pr Gp C) (i := 0) (m := "led") (ds := [(hereV t).data, .int v]) rfl rfl rfl rfl (by decide +kernel) (by decide +kernel) (exs_cons (ex_var rfl) (exs_cons (ex_var rfl) exs_nil)) ⟨hereV t, v, fs, rfl, rfl, hh, Q.ask t gt v hv, hv, hl, hS, rfl, rfl⟩) (exs_cons (ex_var rfl) exs_nil))
          ⟨ledV (hereV t) v, v, rfl, rfl, gl, Q.two t gt v hv, by rw [el]; exact Nat.lt_of_le_of_lt (T.set_len fs) hS.few, rfl, rfl⟩
      refine xm_seq (ρ1 := [some (.o 0), some (.d t.data), some (.d (.list (((opt t 0).map plainV).map T.data))), none, some (.d (.list (((opt t 1).map plainV).map T.data))), some (.d (hereV t).data), some (.d (.list [.list ((bestV (ledV (hereV t) 0) 0).map T.data), .list ((bestV (ledV (hereV t) 1) 1).map T.data)])), none]) (μ1 := stP K w Pr Gp C) (xm_asg (ex_is (ex_mapT (items := [.int 0, .int 1]) (fun d => match d with | .int v => .list ((bestV (ledV (hereV t) v) v).map T.data) | d => d) (ex_pure (ed_tup (eds_cons ed_int (eds_cons ed_int eds_nil)))) (fun d hd => ?_) (by decide)) rfl)) ?_
      · rcases List.mem_cons.mp hd with rfl | hd
        · exact bestE 0 (.inl rfl)
        · rw [List.mem_singleton.mp hd]
          exact bestE 1 (.inr rfl)
      refine xm_known (n := 2) Q.fam (ex_is (ex_pure (ed_call (eds_cons (ed_op (ed_var rfl) ed_int (rd_ixUL (atI_z (by decide) rfl))) (eds_cons (ed_op (ed_var rfl) ed_int (rd_ixUL (atI_z (by decide) rfl))) eds_nil)) ⟨bestV (ledV (hereV t) 0) 0, bestV (ledV (hereV t) 1) 1, _, _, rfl, .inl rfl, .inl rfl, Q.best t gt 0 (.inl rfl), Q.best t gt 1 (.inr rfl), rfl⟩)) ?_) (ex_self (n := 0) rfl rfl Z.cl Z.nP lk_plains) (ex_var rfl) rfl fk
      show SV.d _ = SV.d (T.data (plainV (ofD t.data)))
      rw [ofD_data, plainV_eq it (by omega)]
    · rcases i with _ | _ | _ | _ | _ | _ | _ | _ | i
      · cases h; exact ⟨rfl, show 0 < 3 by decide⟩
      · cases h; exact ⟨rfl, trivial⟩
      all_goals simp at h
  · refine xm_weakR (xm_ret (ex_is (ex_known (n := 2) Q.fam (ex_self (n := 0) rfl rfl Z.cl Z.nP lk_plains) (ex_var rfl) rfl fk) ?_)) (le_cch (μ := stP K w Pr Gp C) (n := 2) rfl)
    show SV.d (T.data (plainV (ofD t.data))) = _
    rw [ofD_data]
theorem has_Plainer_plain (B : BI mg) (Q : PlOk w Gm Pr Gp) (Z : PFacts K C) (F : Fun K "plain" "Plainer.plain" sPlainerPlain f fd) (mt : Meth K C "plain" f) (bd : Binds K fd ["self", "game"] [])
    (h_Plainer_best : HasM P w K mg base k C "best" (SpM K (RPBest K w Gm Pr Gp C))) (h_Plainer_led : HasM P w K mg base k C "led" (SpM K (RPLed K w Gm Pr Gp C))) (h_game_by : Has P w K mg base k "game_by" (SpR K (RGameByA w))) : ∀ N : Nat, HasM P w K mg base (k + N) C "plain" (SpM K (RPPlain K w Pr Gp C N))
  | 0 => ⟨f, fd, ["self", "game"], ⟨fun vs H Q' E h => by obtain ⟨xs, μ, r, μ', _, _, _, _, _, h, _⟩ := h; obtain ⟨_, n, _, _, _, _, h, _⟩ := h; omega, fun A outer s H args us vs Q' E _ _ _ _ h => by obtain ⟨xs, μ, r, μ', _, _, _, _, _, h, _⟩ := h; obtain ⟨_, n, _, _, _, _, h, _⟩ := h; omega⟩, mt, bd⟩
  | N + 1 => ⟨f, fd, ["self", "game"], fn_Plainer_plain B Q Z F (has_Plainer_plain B Q Z F mt bd h_Plainer_best h_Plainer_led h_game_by N) (h_Plainer_best.mono (Nat.le_add_right k N)) (h_Plainer_led.mono (Nat.le_add_right k N)) (h_game_by.mono (Nat.le_add_right k N)), mt, bd⟩
end
/-! ### plain -/
abbrev sPlain : Stmt := topS 6
abbrev nPlain : List Str := ["game"]
theorem scPlain : FnScope nPlain ["game"] (defScope sPlain) := ⟨rfl, rfl, rfl, by decide +kernel, rfl, by decide +kernel, by decide +kernel⟩
section
variable {P : Program} {w : World} {K : PySem.W.Frag} {mg : Str → Option Value} {base : Heap} {f C : Addr} {fd : FuncData} {k j : Nat} {Gm : T → Prop} {Pr : T → T → Prop} {Gp : T → Prop}
theorem has_plain (B : BI mg) (Q : PlOk w Gm Pr Gp) (Z : PFacts K C) (F : Fun K "plain" "plain" sPlain f fd) (b : Binds K fd ["game"] []) (hm : mg "plain" = some (.ref f)) (mk_Plainer : HasMk P w K mg base j "Plainer" C (SpM K (RPInit K w Pr Gp C))) (hk : j + 1 ≤ k)
    (h_Plainer_plain : HasM P w K mg base k C "plain" (SpM K (RPPlain K w Pr Gp C 21))) : Has P w K mg base (k + 1) "plain" (SpR K (RPlainF Gp)) := by
  have cl_Plainer := Z.cl
  refine has_ofP F b hm scPlain (by decide) (fun ds r h => by obtain ⟨_, rfl, _⟩ := h; rfl) (fun cdv A outer s H E hr => ⟨_, (pss_one (ps_ret (pe_hm h_Plainer_plain cl_Plainer hr (by omega) (pe_mk0 mk_Plainer hr (by omega) (by rfl)) (pa_cons (pv 0) pa_nil)))), fun ds r h => ?_⟩)
  try dsimp only [cxOf, Cx.nox, Cx.wish]
  obtain ⟨t, rfl, gt, rfl⟩ := h
  refine ⟨stP K w Pr Gp C, ?_⟩
  refine (show XM K _ [some (.d t.data)] [] _ from ?_)
  refine xm_ret ?_
  have mk : EX K (tMake C (SpM K (RPInit K w Pr Gp C)) [] E0 tNil) [some (.d t.data)] [] (.o 0) (stP K w Pr Gp C) := ex_mu (ex_makeM (K := K) (C := C) (R := RPInit K w Pr Gp C) (x := .o 0) (xs := []) [0] exs_nil rfl (by simp) (by simp) (seenN 0 rfl rfl rfl) (fun y hy => by
    rw [List.mem_singleton.mp hy]
    exact Nat.zero_lt_one) ⟨rfl, rfl, rfl, rfl⟩) rfl
  exact ex_pm0 (R := RPPlain K w Pr Gp C 21) (m := "plain") (ds := [t.data]) mk (by decide +kernel) (by decide +kernel) (exs_cons (ex_var rfl) exs_nil) ⟨t, 20, rfl, rfl, gt, Q.bd t gt, by decide, by decide, rfl, rfl⟩
end
end LM

set_option Elab.async false
set_option linter.all false
set_option maxRecDepth 100000
set_option maxHeartbeats 4000000
namespace LM
open PySem PySem.Spec PyProof.Rows L2 Evl
/-! ### how games stand to one another: an order, in general -/
theorem leV_iff {n m : Nat} {a b : T} (ha : isGm n a = true) (hb : isGm m b = true) (h : n + m ≤ 59) : leV a b = true ↔ (∀ g ∈ opt a 0, leV b g = false) ∧ ∀ g ∈ opt b 1, leV g a = false := by
  rw [leV_eq ha hb h, Bool.and_eq_true, Bool.not_eq_true', Bool.not_eq_true', List.any_eq_false, List.any_eq_false]
  constructor
  · rintro ⟨h1, h2⟩
    exact ⟨fun g hg => Bool.eq_false_iff.mpr (h1 g hg), fun g hg => Bool.eq_false_iff.mpr (h2 g hg)⟩
  · rintro ⟨h1, h2⟩
    exact ⟨fun g hg => Bool.eq_false_iff.mp (h1 g hg), fun g hg => Bool.eq_false_iff.mp (h2 g hg)⟩
theorem le_refl : ∀ (n : Nat) (a : T), isGm n a = true → n ≤ 29 → leV a a = true
  | 0, _, h, _ => by cases h
  | n + 1, a, h, hn => by
    refine (leV_iff h h (by omega)).mpr ⟨fun g hg => ?_, fun g hg => ?_⟩
    · have gg := gm_opt h hg
      refine Bool.eq_false_iff.mpr fun e => ?_
      have := ((leV_iff h gg (by omega)).mp e).1 g hg
      rw [le_refl n g gg (by omega)] at this
      cases this
    · have gg := gm_opt h hg
      refine Bool.eq_false_iff.mpr fun e => ?_
      have := ((leV_iff gg h (by omega)).mp e).2 g hg
      rw [le_refl n g gg (by omega)] at this
      cases this
theorem le_trans : ∀ (s n m p : Nat) (a b c : T), n + m + p ≤ s → isGm n a = true → isGm m b = true → isGm p c = true → n ≤ 29 → m ≤ 29 → p ≤ 29 → leV a b = true → leV b c = true → leV a c = true
  | _, 0, _, _, _, _, _, _, h, _, _, _, _, _, _, _ => by cases h
  | 0, n + 1, _, _, _, _, _, h, _, _, _, _, _, _, _, _ => by omega
  | s + 1, n + 1, m, 0, _, _, _, _, _, _, h, _, _, _, _, _ => by cases h
  | s + 1, n + 1, m, p + 1, a, b, c, hs, ha, hb, hc, na, nb, nc, h1, h2 => by
    refine (leV_iff ha hc (by omega)).mpr ⟨fun g hg => ?_, fun g hg => ?_⟩
    · refine Bool.eq_false_iff.mpr fun e => ?_
      have q := le_trans s m (p + 1) n b c g (by omega) hb hc (gm_opt ha hg) nb nc (by omega) h2 e
      have := ((leV_iff ha hb (by omega)).mp h1).1 g hg
      rw [q] at this
      cases this
    · refine Bool.eq_false_iff.mpr fun e => ?_
      have q := le_trans s p (n + 1) m g a b (by omega) (gm_opt hc hg) ha hb (by omega) na nb e h1
      have := ((leV_iff hb hc (by omega)).mp h2).2 g hg
      rw [q] at this
      cases this
/-- games that last less than 29 -/
def Gam (t : T) : Prop := isGm 28 t = true
theorem Gam.of {n : Nat} {t : T} (h : isGm n t = true) (hn : n ≤ 28) : Gam t := gm_mono h hn
theorem Gam.opt {t x : T} {v : Int} (h : Gam t) (hx : x ∈ opt t v) : Gam x := gm_mono (gm_opt (f := 27) h hx) (by decide)
theorem Gam.refl {a : T} (h : Gam a) : leV a a = true := le_refl 28 a h (by decide)
theorem Gam.trans {a b c : T} (ha : Gam a) (hb : Gam b) (hc : Gam c) (h1 : leV a b = true) (h2 : leV b c = true) : leV a c = true := le_trans 84 28 28 28 a b c (by decide) ha hb hc (by decide) (by decide) (by decide) h1 h2
theorem Gam.iff {a b : T} (ha : Gam a) (hb : Gam b) : leV a b = true ↔ (∀ g ∈ LM.opt a 0, leV b g = false) ∧ ∀ g ∈ LM.opt b 1, leV g a = false := leV_iff ha hb (by decide)
/-- no better for v -/
theorem below0 (a b : T) : belowV a b 0 = leV a b := rfl
theorem below1 (a b : T) : belowV a b 1 = leV b a := rfl
theorem below_flip {v : Int} (hv : v = 0 ∨ v = 1) (a b : T) : belowV a b (1 - v) = belowV b a v := by
  rcases hv with rfl | rfl <;> rfl
theorem bl_refl {a : T} (h : Gam a) {v : Int} (hv : v = 0 ∨ v = 1) : belowV a a v = true := by
  rcases hv with rfl | rfl
  · exact h.refl
  · exact h.refl
theorem bl_trans {a b c : T} (ha : Gam a) (hb : Gam b) (hc : Gam c) {v : Int} (hv : v = 0 ∨ v = 1) (h1 : belowV a b v = true) (h2 : belowV b c v = true) : belowV a c v = true := by
  rcases hv with rfl | rfl
  · exact ha.trans hb hc h1 h2
  · exact hc.trans hb ha h2 h1
theorem bl_iff {a b : T} (ha : Gam a) (hb : Gam b) {v : Int} (hv : v = 0 ∨ v = 1) : belowV a b v = true ↔ (∀ x ∈ opt a v, belowV b x v = false) ∧ ∀ y ∈ opt b (1 - v), belowV y a v = false := by
  rcases hv with rfl | rfl
  · exact ha.iff hb
  · exact (hb.iff ha).trans ⟨fun h => ⟨h.2, h.1⟩, fun h => ⟨h.2, h.1⟩⟩
theorem bl_own {a x : T} (ha : Gam a) {v : Int} (hv : v = 0 ∨ v = 1) (hx : x ∈ opt a v) : belowV a x v = false := ((bl_iff ha ha hv).mp (bl_refl ha hv)).1 x hx
/-- worth the same -/
def Eqv (a b : T) : Prop := leV a b = true ∧ leV b a = true
theorem Eqv.refl {a : T} (h : Gam a) : Eqv a a := ⟨h.refl, h.refl⟩
theorem Eqv.symm {a b : T} (h : Eqv a b) : Eqv b a := ⟨h.2, h.1⟩
theorem Eqv.trans {a b c : T} (ha : Gam a) (hb : Gam b) (hc : Gam c) (h : Eqv a b) (k : Eqv b c) : Eqv a c := ⟨ha.trans hb hc h.1 k.1, hc.trans hb ha k.2 h.2⟩
theorem Eqv.bl {a b : T} (h : Eqv a b) {v : Int} (hv : v = 0 ∨ v = 1) : belowV a b v = true ∧ belowV b a v = true := by
  rcases hv with rfl | rfl
  · exact ⟨h.1, h.2⟩
  · exact ⟨h.2, h.1⟩
theorem eqv_bl {a b : T} (h : belowV a b 0 = true) (h' : belowV a b 1 = true) : Eqv a b := ⟨h, h'⟩
/-- g is worth h: no move of the one is as good for who moves as the other -/
theorem eqv_by {g h : T} (hg : Gam g) (hh : Gam h) (A : ∀ v, v = 0 ∨ v = 1 → ∀ x ∈ opt h v, belowV g x v = false) (B : ∀ v, v = 0 ∨ v = 1 → ∀ x ∈ opt g v, belowV h x v = false) : Eqv g h := by
  refine ⟨(hg.iff hh).mpr ⟨fun x hx => B 0 (.inl rfl) x hx, fun y hy => A 1 (.inr rfl) y hy⟩, (hh.iff hg).mpr ⟨fun x hx => A 0 (.inl rfl) x hx, fun y hy => B 1 (.inr rfl) y hy⟩⟩
/-- moves told by moves of one worth -/
theorem eqv_opts {a b : T} (ha : Gam a) (hb : Gam b) (h1 : ∀ v, v = 0 ∨ v = 1 → ∀ x ∈ opt a v, ∃ y ∈ opt b v, Eqv x y) (h2 : ∀ v, v = 0 ∨ v = 1 → ∀ y ∈ opt b v, ∃ x ∈ opt a v, Eqv x y) : Eqv a b := by
  refine eqv_by ha hb (fun v hv y hy => ?_) (fun v hv x hx => ?_)
  · obtain ⟨x, hx, e⟩ := h2 v hv y hy
    refine Bool.eq_false_iff.mpr fun c => ?_
    have := bl_trans ha (hb.opt hy) (ha.opt hx) hv c (e.bl hv).2
    rw [bl_own ha hv hx] at this
    cases this
  · obtain ⟨y, hy, e⟩ := h1 v hv x hx
    refine Bool.eq_false_iff.mpr fun c => ?_
    have := bl_trans hb (ha.opt hx) (hb.opt hy) hv c (e.bl hv).1
    rw [bl_own hb hv hy] at this
    cases this
theorem gm_of {n : Nat} {l r : List T} (hl : ∀ x ∈ l, isGm n x = true) (hr : ∀ x ∈ r, isGm n x = true) : isGm (n + 1) (T.gm l r) = true := by
  show (l.all (isGm n) && r.all (isGm n)) = true
  rw [Bool.and_eq_true]
  exact ⟨List.all_eq_true.mpr hl, List.all_eq_true.mpr hr⟩
theorem gm_set {n : Nat} {l r : List T} (hl : ∀ x ∈ l, isGm n x = true) (hr : ∀ x ∈ r, isGm n x = true) : isGm (n + 1) (T.gm (T.set l) (T.set r)) = true := gm_of (fun x hx => hl x (T.mem_set.mp hx)) fun x hx => hr x (T.mem_set.mp hx)
theorem opt_gm0 (l r : List T) : opt (T.gm l r) 0 = l := rfl
theorem opt_gm1 (l r : List T) : opt (T.gm l r) 1 = r := rfl
theorem gm_self {n : Nat} {t : T} (h : isGm n t = true) : T.gm (opt t 0) (opt t 1) = t := by
  obtain ⟨a, b, rfl⟩ := gm_shape h
  rfl
/-! ### the plain form: worth the same; the only one -/
/-- the game that the plain form of a game is -/
def nextG (g : T) : T := T.gm (T.set (bestV (ledV g 0) 0)) (T.set (bestV (ledV g 1) 1))
theorem opt_next {g x : T} {v : Int} (hv : v = 0 ∨ v = 1) : x ∈ opt (nextG g) v ↔ x ∈ bestV (ledV g v) v := by
  rcases hv with rfl | rfl
  · exact T.mem_set
  · exact T.mem_set
theorem opt_asc (g : T) {v : Int} (hv : v = 0 ∨ v = 1) : T.Asc (opt (nextG g) v) := by
  rcases hv with rfl | rfl
  · exact T.asc_set _
  · exact T.asc_set _
theorem opt_here {t x : T} {v : Int} (hv : v = 0 ∨ v = 1) : x ∈ opt (hereV t) v ↔ ∃ y ∈ opt t v, plainV y = x := by
  rcases hv with rfl | rfl
  · exact T.mem_set.trans List.mem_map
  · exact T.mem_set.trans List.mem_map
/-- all that is found has p, if the first moves have it and the moves of answers -/
theorem led_all {g : T} {v : Int} {p : T → Prop} (step : ∀ m a, p m → a ∈ opt m (1 - v) → belowV a g v = true → ∀ x ∈ opt a v, p x) : ∀ {f : Nat} {todo fs : List T}, ledL f g v todo = some fs → (∀ m ∈ todo, p m) → ∀ x ∈ fs, p x
  | 0, _, _, h, _, _, _ => by cases h
  | f + 1, [], fs, h, _, x, hx => by cases h; cases hx
  | f + 1, m :: rest, fs, h, hp, x, hx => by
    have pm := hp m List.mem_cons_self
    have pr : ∀ y ∈ rest, p y := fun y hy => hp y (List.mem_cons_of_mem _ hy)
    unfold ledL at h
    cases c : wayV g m v with
    | none =>
      rw [c] at h
      dsimp only at h
      obtain ⟨fs', h1, rfl⟩ := Option.map_eq_some_iff.mp h
      rcases List.mem_cons.mp hx with rfl | hx
      · exact pm
      · exact led_all step h1 pr x hx
    | some a =>
      rw [c] at h
      dsimp only at h
      have ma := List.mem_of_find?_eq_some c
      have ba : belowV a g v = true := List.find?_some (p := fun a => belowV a g v) c
      exact led_all step h (fun y hy => (List.mem_append.mp hy).elim (pr y) (step m a pm ma ba y)) x hx
/-- none that is found leads back -/
theorem led_none {g : T} {v : Int} : ∀ {f : Nat} {todo fs : List T}, ledL f g v todo = some fs → ∀ x ∈ fs, wayV g x v = none
  | 0, _, _, h, _, _ => by cases h
  | f + 1, [], fs, h, x, hx => by cases h; cases hx
  | f + 1, m :: rest, fs, h, x, hx => by
    unfold ledL at h
    cases c : wayV g m v with
    | none =>
      rw [c] at h
      dsimp only at h
      obtain ⟨fs', h1, rfl⟩ := Option.map_eq_some_iff.mp h
      rcases List.mem_cons.mp hx with rfl | hx
      · exact c
      · exact led_none h1 x hx
    | some a =>
      rw [c] at h
      exact led_none h x hx
/-- what has q of all that is found, has all of what there was -/
theorem led_back {g : T} {v : Int} {q : T → Prop} (back : ∀ m a, a ∈ opt m (1 - v) → belowV a g v = true → (∀ x ∈ opt a v, q x) → q m) : ∀ {f : Nat} {todo fs : List T}, ledL f g v todo = some fs → (∀ x ∈ fs, q x) → ∀ m ∈ todo, q m
  | 0, _, _, h, _, _, _ => by cases h
  | f + 1, [], fs, h, _, x, hx => by cases hx
  | f + 1, m :: rest, fs, h, hq, x, hx => by
    unfold ledL at h
    cases c : wayV g m v with
    | none =>
      rw [c] at h
      dsimp only at h
      obtain ⟨fs', h1, rfl⟩ := Option.map_eq_some_iff.mp h
      rcases List.mem_cons.mp hx with rfl | hx
      · exact hq x List.mem_cons_self
      · exact led_back back h1 (fun y hy => hq y (List.mem_cons_of_mem _ hy)) x hx
    | some a =>
      rw [c] at h
      dsimp only at h
      have ma := List.mem_of_find?_eq_some c
      have ba : belowV a g v = true := List.find?_some (p := fun a => belowV a g v) c
      have ih := led_back back h hq
      rcases List.mem_cons.mp hx with rfl | hx
      · exact back x a ma ba fun y hy => ih y (List.mem_append_right _ hy)
      · exact ih x (List.mem_append_left _ hx)
/-- the best moves are of the moves -/
theorem best_sub {v : Int} : ∀ (ms found : List T) {x : T}, x ∈ bestL v ms found → x ∈ ms ∨ x ∈ found
  | [], found, x, h => .inr h
  | m :: rest, found, x, h => by
    unfold bestL at h
    rcases best_sub rest _ h with h | h
    · exact .inl (List.mem_cons_of_mem _ h)
    · split at h
      · exact .inr h
      · rcases List.mem_append.mp h with h | h
        · exact .inr h
        · exact .inl (List.mem_cons.mpr (.inl (List.mem_singleton.mp h)))
theorem best_keep {v : Int} : ∀ (ms found : List T) {x : T}, x ∈ found → x ∈ bestL v ms found
  | [], found, x, h => h
  | m :: rest, found, x, h => by
    unfold bestL
    refine best_keep rest _ ?_
    split
    · exact h
    · exact List.mem_append_left _ h
/-- each move is no better than one of the best -/
theorem best_over {v : Int} (hv : v = 0 ∨ v = 1) : ∀ (ms found : List T), (∀ x ∈ ms, Gam x) → (∀ x ∈ found, Gam x) → ∀ x ∈ ms, ∃ y ∈ bestL v ms found, belowV x y v = true
  | [], _, _, _, x, h => by cases h
  | m :: rest, found, hm, hf, x, h => by
    have gm := hm m List.mem_cons_self
    have gr : ∀ y ∈ rest, Gam y := fun y hy => hm y (List.mem_cons_of_mem _ hy)
    unfold bestL
    cases c : (rest ++ found).any fun o => belowV m o v with
    | true =>
      have ih := best_over hv rest found gr hf
      rw [if_pos rfl]
      rcases List.mem_cons.mp h with rfl | h
      · obtain ⟨o, ho, b⟩ := List.any_eq_true.mp c
        rcases List.mem_append.mp ho with ho | ho
        · obtain ⟨y, hy, b2⟩ := ih o ho
          have gy : Gam y := (best_sub rest found hy).elim (gr y) (hf y)
          exact ⟨y, hy, bl_trans gm (gr o ho) gy hv b b2⟩
        · exact ⟨o, best_keep rest found ho, b⟩
      · exact ih x h
    | false =>
      rw [if_neg Bool.false_ne_true]
      rcases List.mem_cons.mp h with rfl | h
      · exact ⟨x, best_keep rest _ (List.mem_append_right _ (List.mem_singleton.mpr rfl)), bl_refl gm hv⟩
      · exact best_over hv rest (found ++ [m]) gr (fun y hy => (List.mem_append.mp hy).elim (hf y) fun z => by rw [List.mem_singleton.mp z]; exact gm) x h
/-- none of the best is no better than another -/
theorem best_apart {v : Int} : ∀ (ms found : List T), (ms ++ found).Nodup → (∀ x ∈ found, ∀ y ∈ found, x ≠ y → belowV x y v = false) → (∀ x ∈ found, ∀ y ∈ ms, belowV x y v = false) → ∀ x ∈ bestL v ms found, ∀ y ∈ bestL v ms found, x ≠ y → belowV x y v = false
  | [], found, _, h, _ => h
  | m :: rest, found, nd, h1, h2 => by
    have nd' := nd
    rw [List.cons_append, List.nodup_cons] at nd
    unfold bestL
    cases c : (rest ++ found).any fun o => belowV m o v with
    | true =>
      rw [if_pos rfl]
      exact best_apart rest found nd.2 h1 fun x hx y hy => h2 x hx y (List.mem_cons_of_mem _ hy)
    | false =>
      rw [if_neg Bool.false_ne_true]
      have c' : ∀ o ∈ rest ++ found, belowV m o v = false := fun o ho => Bool.eq_false_iff.mpr (List.any_eq_false.mp c o ho)
      refine best_apart rest (found ++ [m]) ?_ ?_ ?_
      · rw [← List.append_assoc]
        have p : (rest ++ found ++ [m]).Perm (m :: (rest ++ found)) := List.perm_append_singleton m _
        exact p.nodup_iff.mpr nd'
      · intro x hx y hy ne
        rcases List.mem_append.mp hx with hx | hx
        · rcases List.mem_append.mp hy with hy | hy
          · exact h1 x hx y hy ne
          · rw [List.mem_singleton.mp hy]
            exact h2 x hx m List.mem_cons_self
        · rw [List.mem_singleton.mp hx] at ne ⊢
          rcases List.mem_append.mp hy with hy | hy
          · exact c' y (List.mem_append_right _ hy)
          · exact absurd (List.mem_singleton.mp hy).symm ne
      · intro x hx y hy
        rcases List.mem_append.mp hx with hx | hx
        · exact h2 x hx y (List.mem_cons_of_mem _ hy)
        · rw [List.mem_singleton.mp hx]
          exact c' y (List.mem_append_left _ hy)
/-- games that are plain by themselves, and in all that comes -/
def canT : Nat → T → Prop
  | 0, _ => False
  | f + 1, t => isGm (f + 1) t = true ∧ ∀ v, v = 0 ∨ v = 1 → T.Asc (opt t v) ∧ (∀ x ∈ opt t v, canT f x) ∧ (∀ x ∈ opt t v, ∀ y ∈ opt t v, x ≠ y → belowV x y v = false) ∧ ∀ x ∈ opt t v, ∀ a ∈ opt x (1 - v), belowV a t v = false
theorem can_gm : ∀ {f : Nat} {t : T}, canT f t → isGm f t = true
  | 0, _, h => h.elim
  | f + 1, _, h => h.1
theorem can_mono : ∀ {f g : Nat} {t : T}, canT f t → f ≤ g → canT g t
  | 0, _, _, h, _ => h.elim
  | f + 1, 0, _, _, h => by omega
  | f + 1, g + 1, t, h, hg => ⟨gm_mono h.1 hg, fun v hv => by
    obtain ⟨h1, h2, h3, h4⟩ := h.2 v hv
    exact ⟨h1, fun x hx => can_mono (h2 x hx) (by omega), h3, h4⟩⟩
theorem can_half {f : Nat} (ih : ∀ x y : T, canT f x → canT f y → Eqv x y → x = y) {a b : T} (ha : canT (f + 1) a) (hb : canT (f + 1) b) (hf : f + 1 ≤ 28) (e : Eqv a b) {v : Int} (hv : v = 0 ∨ v = 1) {x : T} (hx : x ∈ opt a v) : x ∈ opt b v := by
  have ga : Gam a := Gam.of ha.1 hf
  have gb : Gam b := Gam.of hb.1 hf
  obtain ⟨_, a2, a3, a4⟩ := ha.2 v hv
  obtain ⟨_, b2, b3, b4⟩ := hb.2 v hv
  have up : ∀ {p q z : T}, Gam p → Gam q → Eqv p q → (∀ z ∈ opt p v, ∀ r ∈ opt z (1 - v), belowV r p v = false) → z ∈ opt p v → ∃ y ∈ opt q v, belowV z y v = true := fun {p q z} gp gq e rev hz => by
    have gz := gp.opt hz
    refine Classical.byContradiction fun no => ?_
    have n1 : belowV q z v = false := ((bl_iff gp gq hv).mp (e.bl hv).1).1 z hz
    refine Bool.eq_false_iff.mp n1 ((bl_iff gq gz hv).mpr ⟨fun y hy => Bool.eq_false_iff.mpr fun c => no ⟨y, hy, c⟩, fun r hr => Bool.eq_false_iff.mpr fun c => ?_⟩)
    have := bl_trans (gz.opt hr) gq gp hv c (e.bl hv).2
    rw [rev z hz r hr] at this
    cases this
  obtain ⟨y, hy, b1⟩ := up ga gb e a4 hx
  obtain ⟨z, hz, b2'⟩ := up gb ga e.symm b4 hy
  have gx := ga.opt hx
  have gy := gb.opt hy
  have gz := ga.opt hz
  have xz : x = z := Classical.byContradiction fun ne => by
    have := bl_trans gx gy gz hv b1 b2'
    rw [a3 x hx z hz ne] at this
    cases this
  subst xz
  have ex : Eqv x y := by
    rcases hv with rfl | rfl
    · exact ⟨b1, b2'⟩
    · exact ⟨b2', b1⟩
  rw [ih x y (a2 x hx) (b2 y hy) ex]
  exact hy
/-- two of these worth the same are one -/
theorem can_uniq : ∀ (f : Nat) (a b : T), f ≤ 28 → canT f a → canT f b → Eqv a b → a = b
  | 0, _, _, _, h, _, _ => h.elim
  | f + 1, a, b, hf, ha, hb, e => by
    have ih := fun x y => can_uniq f x y (by omega)
    have q : ∀ v, v = 0 ∨ v = 1 → opt a v = opt b v := fun v hv => T.asc_ext (ha.2 v hv).1 (hb.2 v hv).1 fun x => ⟨fun h => can_half ih ha hb hf e hv h, fun h => can_half ih hb ha hf e.symm hv h⟩
    rw [← gm_self ha.1, ← gm_self hb.1, q 0 (.inl rfl), q 1 (.inr rfl)]
/-- from a game whose moves are plain: the next is worth it, and plain -/
theorem next_ok {n : Nat} {g : T} (hn : n + 1 ≤ 28) (gg : isGm (n + 1) g = true) (cg : ∀ v, v = 0 ∨ v = 1 → ∀ x ∈ opt g v, canT n x) (led : ∀ v, v = 0 ∨ v = 1 → ∃ fs, ledL 200 g v (opt g v) = some fs) : Eqv g (nextG g) ∧ canT (n + 1) (nextG g) := by
  have Gg : Gam g := Gam.of gg hn
  have fsE : ∀ v, v = 0 ∨ v = 1 → ∀ fs, ledL 200 g v (opt g v) = some fs → ∀ x, x ∈ ledV g v ↔ x ∈ fs := fun v hv fs h x => by
    unfold ledV
    rw [h]
    exact T.mem_set
  have can : ∀ v, v = 0 ∨ v = 1 → ∀ x ∈ ledV g v, canT n x := fun v hv x hx => by
    obtain ⟨fs, h⟩ := led v hv
    refine led_all (p := canT n) (fun m a pm ma _ y hy => ?_) h (cg v hv) x ((fsE v hv fs h x).mp hx)
    cases n with
    | zero => exact pm.elim
    | succ n =>
      have h1 := (pm.2 (1 - v) (by omega)).2.1 a ma
      cases n with
      | zero => exact h1.elim
      | succ n => exact can_mono ((h1.2 v hv).2.1 y hy) (by omega)
  have own : ∀ v, v = 0 ∨ v = 1 → ∀ x ∈ ledV g v, belowV g x v = false := fun v hv x hx => by
    obtain ⟨fs, h⟩ := led v hv
    refine (led_all (p := fun m => Gam m ∧ belowV g m v = false) (fun m a pm ma ba y hy => ?_) h (fun m hm => ⟨Gg.opt hm, bl_own Gg hv hm⟩) x ((fsE v hv fs h x).mp hx)).2
    have ga := pm.1.opt ma
    have gy := ga.opt hy
    refine ⟨gy, Bool.eq_false_iff.mpr fun c => ?_⟩
    have := bl_trans ga Gg gy hv ba c
    rw [bl_own ga hv hy] at this
    cases this
  have gmL : ∀ v, v = 0 ∨ v = 1 → ∀ x ∈ ledV g v, isGm n x = true := fun v hv x hx => can_gm (can v hv x hx)
  have sub : ∀ v, ∀ x ∈ bestV (ledV g v) v, x ∈ ledV g v := fun v x hx => (best_sub _ [] hx).elim id fun h => (by cases h)
  have gh : isGm (n + 1) (nextG g) = true := gm_set (fun x hx => gmL 0 (.inl rfl) x (sub 0 x hx)) fun x hx => gmL 1 (.inr rfl) x (sub 1 x hx)
  have Gh : Gam (nextG g) := Gam.of gh hn
  have A : ∀ v, v = 0 ∨ v = 1 → ∀ x ∈ opt (nextG g) v, belowV g x v = false := fun v hv x hx => own v hv x (sub v x ((opt_next hv).mp hx))
  have B : ∀ v, v = 0 ∨ v = 1 → ∀ x ∈ opt g v, belowV (nextG g) x v = false := fun v hv x hx => by
    obtain ⟨fs, h⟩ := led v hv
    refine (led_back (q := fun m => Gam m → belowV (nextG g) m v = false) (fun m a ma ba hq gm => ?_) h (fun y hy gy => ?_) x hx) (Gg.opt hx)
    · have ga := gm.opt ma
      refine Bool.eq_false_iff.mpr fun c => ?_
      have c1 := ((bl_iff Gh gm hv).mp c).2 a ma
      refine Bool.eq_false_iff.mp c1 ((bl_iff ga Gh hv).mpr ⟨fun y hy => hq y hy (ga.opt hy), fun y hy => Bool.eq_false_iff.mpr fun c2 => ?_⟩)
      have gy := Gh.opt hy
      have c3 := bl_trans gy ga Gg hv c2 ba
      have c4 := A (1 - v) (by omega) y hy
      rw [below_flip hv, c3] at c4
      cases c4
    · obtain ⟨z, hz, b⟩ := best_over hv (ledV g v) [] (fun u hu => Gam.of (gmL v hv u hu) (by omega)) (fun u hu => by cases hu) y ((fsE v hv fs h y).mpr hy)
      refine Bool.eq_false_iff.mpr fun c => ?_
      have hz' := (opt_next (g := g) hv).mpr hz
      have := bl_trans Gh gy (Gh.opt hz') hv c b
      rw [bl_own Gh hv hz'] at this
      cases this
  have E := eqv_by Gg Gh A B
  refine ⟨E, gh, fun v hv => ⟨opt_asc g hv, fun x hx => can v hv x (sub v x ((opt_next hv).mp hx)), fun x hx y hy ne => ?_, fun x hx a ha => ?_⟩⟩
  · have nd : (ledV g v).Nodup := by
      unfold ledV
      exact (T.asc_set _).nodup
    exact best_apart (ledV g v) [] (by rw [List.append_nil]; exact nd) (fun x hx => by cases hx) (fun x hx => by cases hx) x ((opt_next hv).mp hx) y ((opt_next hv).mp hy) ne
  · obtain ⟨fs, h⟩ := led v hv
    have hx' := (fsE v hv fs h x).mp (sub v x ((opt_next hv).mp hx))
    have w0 := led_none h x hx'
    have n1 : belowV a g v = false := by
      have := List.find?_eq_none.mp w0 a ha
      exact Bool.eq_false_iff.mpr this
    have gx := Gh.opt hx
    have ga := gx.opt ha
    refine Bool.eq_false_iff.mpr fun c => ?_
    have := bl_trans ga Gh Gg hv c (E.bl hv).2
    rw [n1] at this
    cases this
theorem plain_next {n : Nat} {t : T} (h : isGm n t = true) (hn : n ≤ 27) : plainV t = nextG (hereV t) := plainV_eq h (by omega)
/-- the plain form is worth the game, and plain -/
theorem plain_ok {Gp : T → Prop} (cl : ∀ t, Gp t → ∀ v x, x ∈ opt t v → Gp x) (led : ∀ t, Gp t → ∀ v, v = 0 ∨ v = 1 → ∃ fs, ledL 200 (hereV t) v (opt (hereV t) v) = some fs) : ∀ (n : Nat) (t : T), Gp t → isGm n t = true → n ≤ 27 → Eqv t (plainV t) ∧ canT n (plainV t)
  | 0, _, _, h, _ => by cases h
  | n + 1, t, gt, h, hn => by
    have ih : ∀ v, v = 0 ∨ v = 1 → ∀ x ∈ opt t v, Eqv x (plainV x) ∧ canT n (plainV x) := fun v hv x hx => plain_ok cl led n x (cl t gt v x hx) (gm_opt h hx) (by omega)
    have ch : ∀ v, v = 0 ∨ v = 1 → ∀ y ∈ opt (hereV t) v, canT n y := fun v hv y hy => by
      obtain ⟨x, hx, rfl⟩ := (opt_here hv).mp hy
      exact (ih v hv x hx).2
    have gh : isGm (n + 1) (hereV t) = true := gm_set (fun y hy => by
      obtain ⟨x, hx, rfl⟩ := List.mem_map.mp hy
      exact can_gm (ih 0 (.inl rfl) x hx).2) fun y hy => by
      obtain ⟨x, hx, rfl⟩ := List.mem_map.mp hy
      exact can_gm (ih 1 (.inr rfl) x hx).2
    have Gt : Gam t := Gam.of h (by omega)
    have Gh : Gam (hereV t) := Gam.of gh (by omega)
    have e1 : Eqv t (hereV t) := eqv_opts Gt Gh (fun v hv x hx => ⟨plainV x, (opt_here hv).mpr ⟨x, hx, rfl⟩, (ih v hv x hx).1⟩) fun v hv y hy => by
      obtain ⟨x, hx, rfl⟩ := (opt_here hv).mp hy
      exact ⟨x, hx, (ih v hv x hx).1⟩
    obtain ⟨e2, c⟩ := next_ok (by omega) gh ch (led t gt)
    rw [plain_next h hn]
    exact ⟨e1.trans Gt Gh (Gam.of (can_gm c) (by omega)) e2, c⟩
/-- plain forms are one just if the games are worth the same -/
theorem plain_same {Gp Gq : T → Prop} (cl : ∀ t, Gp t → ∀ v x, x ∈ opt t v → Gp x) (led : ∀ t, Gp t → ∀ v, v = 0 ∨ v = 1 → ∃ fs, ledL 200 (hereV t) v (opt (hereV t) v) = some fs)
    (cl2 : ∀ t, Gq t → ∀ v x, x ∈ opt t v → Gq x) (led2 : ∀ t, Gq t → ∀ v, v = 0 ∨ v = 1 → ∃ fs, ledL 200 (hereV t) v (opt (hereV t) v) = some fs) {a b : T} (ga : Gp a) (gb : Gq b) (ia : isGm 27 a = true) (ib : isGm 27 b = true) : plainV a = plainV b ↔ Eqv a b := by
  obtain ⟨e1, c1⟩ := plain_ok cl led 27 a ga ia (by decide)
  obtain ⟨e2, c2⟩ := plain_ok cl2 led2 27 b gb ib (by decide)
  have Ga : Gam a := Gam.of ia (by decide)
  have Gb : Gam b := Gam.of ib (by decide)
  have Pa : Gam (plainV a) := Gam.of (can_gm c1) (by decide)
  have Pb : Gam (plainV b) := Gam.of (can_gm c2) (by decide)
  constructor
  · intro e
    rw [e] at e1
    exact e1.trans Ga Pb Gb e2.symm
  · intro e
    exact can_uniq 27 _ _ (by decide) c1 c2 ((e1.symm.trans Pa Ga Gb e).trans Pa Gb Pb e2)
end LM

set_option Elab.async false
set_option linter.all false
set_option maxRecDepth 100000
set_option maxHeartbeats 4000000
namespace LM
open PySem PySem.Spec PyProof.Rows L2 Evl
/-! ### games turned about, beside one another, played: by the law -/
theorem ed_treesT {K : PySem.W.Frag} {ρ : Rho} {tl te : TE} {j : Nat} {l : List T} (g : T → T) (hsrc : ED K tl ρ (.tuple (l.map T.data))) (he : ∀ t ∈ l, ED K te ((wipeR ρ [j]).set j (some t.data)) (g t).data) (hz : l.length ≤ 50000 := by omega) :
    ED K (tLc (iTup K tl) (gName j) tYes te [j]) ρ (.list ((l.map g).map T.data)) := by
  refine ed_is (ed_el (el_mapT (fun d => (g (ofD d)).data) hsrc (fun d hd => ?_) (by rw [List.length_map]; exact hz))) ?_
  · obtain ⟨t, ht, rfl⟩ := List.mem_map.mp hd
    rw [ofD_data]
    exact he t ht
  · rw [List.map_map, List.map_map]
    congr 1
    exact List.map_congr_left fun t _ => by show (g (ofD t.data)).data = _; rw [ofD_data]; rfl
def tnT : Nat → T → T
  | 0, t => t
  | f + 1, t => T.gm (T.set ((opt t 1).map (tnT f))) (T.set ((opt t 0).map (tnT f)))
theorem tn_stable : ∀ (f g n : Nat) (t : T), isGm n t = true → n ≤ f → n ≤ g → tnT f t = tnT g t
  | f, g, 0, t, h, _, _ => by cases h
  | 0, _, n + 1, t, _, hf, _ => by omega
  | _ + 1, 0, n + 1, t, _, _, hg => by omega
  | f + 1, g + 1, n + 1, t, h, hf, hg => by
    unfold tnT
    rw [List.map_congr_left fun x hx => tn_stable f g n x (gm_opt (w := 1) h hx) (by omega) (by omega), List.map_congr_left fun x hx => tn_stable f g n x (gm_opt (w := 0) h hx) (by omega) (by omega)]
def tnV (t : T) : T := tnT 30 t
theorem tnV_eq {n : Nat} {t : T} (h : isGm n t = true) (hn : n ≤ 29) : tnV t = T.gm (T.set ((opt t 1).map tnV)) (T.set ((opt t 0).map tnV)) := by
  cases n with
  | zero => cases h
  | succ n =>
    show tnT (29 + 1) t = _
    unfold tnT
    rw [List.map_congr_left fun x hx => tn_stable 29 30 n x (gm_opt (w := 1) h hx) (by omega) (by omega), List.map_congr_left fun x hx => tn_stable 29 30 n x (gm_opt (w := 0) h hx) (by omega) (by omega)]
    rfl
structure TnOk (w : World) (Gt : T → Prop) : Prop where
  cl : ∀ t, Gt t → ∀ v x, x ∈ opt t v → Gt x
  bd : ∀ t, Gt t → isGm 20 t = true
  few : ∀ t, Gt t → ∀ v, (opt t v).length < 64
  kids : ∀ t, Gt t → ∀ v, v = 0 ∨ v = 1 → SetOk w ((opt t v).map tnV)
def RTurned (Gt : T → Prop) (N : Nat) (ds : List D) (r : D) : Prop := ∃ t n, ds = [T.data t] ∧ Gt t ∧ isGm n t = true ∧ n < N ∧ n ≤ 20 ∧ r = (tnV t).data
/-! ### _law_turned -/
abbrev sLawTurned : Stmt := topS 15
abbrev nLawTurned : List Str := ["_law_game_here", "_law_move"]
theorem scLawTurned : FnScope nLawTurned ["_law_game_here"] (defScope sLawTurned) := ⟨rfl, rfl, rfl, by decide +kernel, rfl, by decide +kernel, by decide +kernel⟩
section
variable {P : Program} {w : World} {K : PySem.W.Frag} {mg : Str → Option Value} {base : Heap} {f : Addr} {fd : FuncData} {k j : Nat} {Gt : T → Prop}
theorem has__law_turned1 (B : BI mg) (Q : TnOk w Gt) (F : Fun K "_law_turned" "_law_turned" sLawTurned f fd) (b : Binds K fd ["_law_game_here"] []) (hm : mg "_law_turned" = some (.ref f)) {N : Nat} (h__law_turned : Has P w K mg base k "_law_turned" (SpR K (RTurned Gt N))) (h__law_by : Has P w K mg base k "_law_by" (SpR K RBy)) : Has P w K mg base (k + 1) "_law_turned" (SpR K (RTurned Gt (N + 1))) := by
  refine has_of F b hm scLawTurned (by decide) (fun ds r h => by obtain ⟨_, _, rfl, _⟩ := h; rfl) (fun cdv A outer s H E hr => ⟨_, (pss_one (ps_ret (pe_h h__law_by hr (by omega) (by rfl) (pa_cons (pe_lc (own := [("_law_move", 1)]) rfl scLawTurned.nd (pi_tupK K rfl (pe_ix (ix_K K rfl) (pv 0) pe_int (fun _ _ => rfl))) (blkOk_by (N := nLawTurned) (sc := defScope sLawTurned) (by decide +kernel)) (fun _ _ _ _ _ => (pg_name (i := 1) scLawTurned.nd rfl (by first | exact .inl rfl | exact .inr rfl))) (fun _ _ _ _ _ => pts_nil) (fun _ _ _ _ _ => (pe_h h__law_turned hr (by omega) (by rfl) (pa_cons (pv 1) pa_nil)))) (pa_cons (pe_lc (own := [("_law_move", 1)]) rfl scLawTurned.nd (pi_tupK K rfl (pe_ix (ix_K K rfl) (pv 0) pe_int (fun _ _ => rfl))) (blkOk_by (N := nLawTurned) (sc := defScope sLawTurned) (by decide +kernel)) (fun _ _ _ _ _ => (pg_name (i := 1) scLawTurned.nd rfl (by first | exact .inl rfl | exact .inr rfl))) (fun _ _ _ _ _ => pts_nil) (fun _ _ _ _ _ => (pe_h h__law_turned hr (by omega) (by rfl) (pa_cons (pv 1) pa_nil)))) pa_nil))))), fun ds r h => ?_⟩)
  try dsimp only [cxOf, Cx.nox, Cx.wish]
  obtain ⟨t, n, rfl, gt, it, hn, h20, rfl⟩ := h
  obtain ⟨n, rfl⟩ : ∃ q, n = q + 1 := by
    cases n with
    | zero => cases it
    | succ n => exact ⟨n, rfl⟩
  obtain ⟨l0, e0, h0⟩ := opt_data it (w := 0) (.inl rfl)
  obtain ⟨l1, e1, h1⟩ := opt_data it (w := 1) (.inr rfl)
  have f0 := Q.few t gt 0
  have f1 := Q.few t gt 1
  refine xd_ret (ed_call (eds_cons (ed_treesT (l := opt t 1) tnV (ed_op (ed_var rfl) ed_int (rd_ixUT' e1 h1)) (fun x hx => ed_call (eds_cons (ed_var rfl) eds_nil) ⟨x, n, rfl, Q.cl t gt 1 x hx, gm_opt it hx, by omega, by omega, rfl⟩)) (eds_cons (ed_treesT (l := opt t 0) tnV (ed_op (ed_var rfl) ed_int (rd_ixUT' e0 h0)) (fun x hx => ed_call (eds_cons (ed_var rfl) eds_nil) ⟨x, n, rfl, Q.cl t gt 0 x hx, gm_opt it hx, by omega, by omega, rfl⟩)) eds_nil))
    ⟨(opt t 1).map tnV, (opt t 0).map tnV, rfl, (Q.kids t gt 1 (.inr rfl)).ful, (Q.kids t gt 0 (.inl rfl)).ful, Nat.le_trans (Q.kids t gt 1 (.inr rfl)).dep (by decide), Nat.le_trans (Q.kids t gt 0 (.inl rfl)).dep (by decide), by rw [List.length_map]; omega, by rw [List.length_map]; omega, by rw [tnV_eq it (by omega)]⟩)
theorem has__law_turned (B : BI mg) (Q : TnOk w Gt) (F : Fun K "_law_turned" "_law_turned" sLawTurned f fd) (b : Binds K fd ["_law_game_here"] []) (hm : mg "_law_turned" = some (.ref f)) (h__law_by : Has P w K mg base k "_law_by" (SpR K RBy)) : ∀ N : Nat, Has P w K mg base (k + N) "_law_turned" (SpR K (RTurned Gt N))
  | 0 => has_none F b hm fun ds r h => by obtain ⟨_, n, _, _, _, h, _⟩ := h; omega
  | N + 1 => has__law_turned1 B Q F b hm (has__law_turned B Q F b hm h__law_by N) (h__law_by.mono (Nat.le_add_right k N))
end
/-! the mathematics -/
def cellAt (ns : List Int) (k : Int) : Int := ns.getD k.toNat 0
def mixed (ns : List Int) (k : Int) : Int :=
  (((cellAt ns k + 7919 * k + 1) * 48271 % 2147483647) * ((cellAt ns k + 7919 * k + 1) * 48271 % 2147483647) + 7 * ((cellAt ns k + 7919 * k + 1) * 48271 % 2147483647) + k) % 2147483629
def drawn (n k : Int) : Int :=
  (((n + 104729 * k + 17) * 69621 % 2147483647) * ((n + 104729 * k + 17) * 69621 % 2147483647) + 3 * ((n + 104729 * k + 17) * 69621 % 2147483647) + k) % 2147483629
theorem drawn_bd (n k : Int) : 0 ≤ drawn n k ∧ drawn n k < 2147483629 := ⟨Int.emod_nonneg _ (by decide), Int.emod_lt_of_pos _ (by decide)⟩
theorem mixed_bd (ns : List Int) (k : Int) : 0 ≤ mixed ns k ∧ mixed ns k < 2147483629 := ⟨Int.emod_nonneg _ (by decide), Int.emod_lt_of_pos _ (by decide)⟩
theorem cmul_sq {i : Int} (h0 : 0 ≤ i) (h1 : i < 4294967296) : CMul i i := .inl ⟨by omega, by omega⟩
theorem mod_bd (x : Int) : 0 ≤ x % 2147483647 ∧ x % 2147483647 < 4294967296 := ⟨Int.emod_nonneg _ (by decide), by have := Int.emod_lt_of_pos x (show (0 : Int) < 2147483647 by decide); omega⟩
section
variable {P : Program} {w : World} {K : PySem.W.Frag} {mg : Str → Option Value} {base : Heap} {f : Addr} {fd : FuncData} {k j : Nat}
def RCell (ds : List D) (r : D) : Prop := ∃ ns k, ds = [.list (ns.map PyData.int), .int k] ∧ 0 ≤ k ∧ r = .int (cellAt ns k)
def RMixed (ds : List D) (r : D) : Prop := ∃ ns k, ds = [.list (ns.map PyData.int), .int k] ∧ 0 ≤ k ∧ k ≤ 1000000 ∧ r = .int (mixed ns k)
def RDrawn (ds : List D) (r : D) : Prop := ∃ n k, ds = [.int n, .int k] ∧ 0 ≤ k ∧ k ≤ 1000000 ∧ r = .int (drawn n k)
end
/-! ### _law_cell_at -/
abbrev sLawCellAt : Stmt := topS 8
abbrev nLawCellAt : List Str := ["_law_script", "_law_k"]
theorem scLawCellAt : FnScope nLawCellAt ["_law_script", "_law_k"] (defScope sLawCellAt) := ⟨rfl, rfl, rfl, by decide +kernel, rfl, by decide +kernel, by decide +kernel⟩
section
variable {P : Program} {w : World} {K : PySem.W.Frag} {mg : Str → Option Value} {base : Heap} {f : Addr} {fd : FuncData} {k j : Nat}
theorem has__law_cell_at (B : BI mg) (F : Fun K "_law_cell_at" "_law_cell_at" sLawCellAt f fd) (b : Binds K fd ["_law_script", "_law_k"] []) (hm : mg "_law_cell_at" = some (.ref f)) : Has P w K mg base (k + 1) "_law_cell_at" (SpR K RCell) := by
  refine has_of F b hm scLawCellAt (by decide) (fun ds r h => by obtain ⟨_, _, rfl, _⟩ := h; rfl) (fun cdv A outer s H E hr => ⟨_, (pss_cons (ps_if (pt_cmpR (op_ltK K rfl (hu64 hr)) (pv 1) (pe_callB (call_lenK K rfl) (by rfl) B.len boot_len (pa_cons (pv 0) pa_nil)) (nomark _)) (pss_one (ps_ret (pe_ix (ix_K K rfl) (pv 0) (pv 1) (fun _ _ => rfl)))) pss_nil)
    (pss_one (ps_ret pe_int))), fun ds r h => ?_⟩)
  try dsimp only [cxOf, Cx.nox, Cx.wish]
  obtain ⟨ns, z, rfl, h0, rfl⟩ := h
  refine xd_ifs (by (repeat' (first
    | exact ed_var rfl | exact ed_int | exact ed_bl | exact ed_str | exact ed_non
    | exact eds_nil | with_reducible refine' eds_cons ?_ ?_
    | exact rd_addI | exact rd_sub | exact rd_ltI | exact rd_geI | exact rd_gtI | exact rd_le | exact rd_lt | exact rd_eqI | exact rd_neI | exact rd_eqS | exact rd_neS
    | exact rd_mulI (.inr ⟨by decide, by decide⟩) | exact rd_mulI (.inl ⟨by decide, by decide⟩) | exact rd_mod (by decide) | exact rd_div ⟨by decide, by decide⟩
    | exact ud_neg
    | exact et_yes
    | with_reducible refine' ed_op ?_ ?_ ?_ | with_reducible refine' ed_un ?_ ?_ | with_reducible refine' ed_tup ?_ ?_ | with_reducible refine' et_test ?_ | with_reducible refine' et_B ?_ | with_reducible refine ed_notV ?_ | with_reducible refine et_not ?_
    | exact cd_max2 | exact cd_min2 | exact cd_abs | exact cd_lenL | exact cd_lenT | exact cd_tupL | exact cd_tupT
    | exact ed_isi (by assumption) rfl
    | with_reducible refine' ed_cb ?_ ?_ ))) (fun c => ?_) (fun c => ?_)
  · have c' := of_decide_eq_true c
    rw [List.length_map] at c'
    refine xd_rets ?_
    refine ed_op (ed_var rfl) (ed_var rfl) (rd_ixUL (atI_map (atI_z h0 ?_)))
    unfold cellAt
    have : z.toNat < ns.length := by omega
    rw [List.getD_eq_getElem?_getD, List.getElem?_eq_getElem this]; rfl
  · have c' := of_decide_eq_false c
    rw [List.length_map] at c'
    refine xd_nexts (xd_ret (ed_is ed_int ?_))
    unfold cellAt
    rw [List.getD_eq_getElem?_getD, List.getElem?_eq_none (by omega)]; rfl
end
/-! ### _law_mixed -/
abbrev sLawMixed : Stmt := topS 9
abbrev nLawMixed : List Str := ["_law_script", "_law_k", "_law_drawn_here"]
theorem scLawMixed : FnScope nLawMixed ["_law_script", "_law_k"] (defScope sLawMixed) := ⟨rfl, rfl, rfl, by decide +kernel, rfl, by decide +kernel, by decide +kernel⟩
section
variable {P : Program} {w : World} {K : PySem.W.Frag} {mg : Str → Option Value} {base : Heap} {f : Addr} {fd : FuncData} {k j : Nat}
theorem has__law_mixed (B : BI mg) (F : Fun K "_law_mixed" "_law_mixed" sLawMixed f fd) (b : Binds K fd ["_law_script", "_law_k"] []) (hm : mg "_law_mixed" = some (.ref f)) (h__law_cell_at : Has P w K mg base k "_law_cell_at" (SpR K RCell)) : Has P w K mg base (k + 1) "_law_mixed" (SpR K RMixed) := by
  refine has_of F b hm scLawMixed (by decide) (fun ds r h => by obtain ⟨_, _, rfl, _⟩ := h; rfl) (fun cdv A outer s H E hr => ⟨_, (pss_cons (ps_set (i := 2) scLawMixed.nd rfl (by first | exact .inl rfl | exact .inr rfl) (pe_op op_mod (pe_op (op_mulK K rfl) (pe_op (op_addK K rfl) (pe_op (op_addK K rfl) (pe_h h__law_cell_at hr (by omega) (by rfl) (pa_cons (pv 0) (pa_cons (pv 1) pa_nil))) (pe_op (op_mulK K rfl) pe_int (pv 1))) pe_int) pe_int) pe_int))
    (pss_one (ps_ret (pe_op op_mod (pe_op (op_addK K rfl) (pe_op (op_addK K rfl) (pe_op (op_mulK K rfl) (pv 2) (pv 2)) (pe_op (op_mulK K rfl) pe_int (pv 2))) (pv 1)) pe_int)))), fun ds r h => ?_⟩)
  try dsimp only [cxOf, Cx.nox, Cx.wish]
  obtain ⟨ns, z, rfl, h0, h1, rfl⟩ := h
  have m := mod_bd ((cellAt ns z + 7919 * z + 1) * 48271)
  refine xd_seq (xd_asg (d := .int ((cellAt ns z + 7919 * z + 1) * 48271 % 2147483647)) ?_) (xd_ret (d := .int (mixed ns z)) ?_)
  · refine' ed_op (ed_op (ed_op (ed_op (ed_call (eds_cons (ed_var rfl) (eds_cons (ed_var rfl) eds_nil)) ⟨ns, z, rfl, h0, rfl⟩) ?_ ?_) ?_ ?_) ?_ ?_) ?_ ?_ <;> (repeat' (first
    | exact ed_var rfl | exact ed_int | exact ed_bl | exact ed_str | exact ed_non
    | exact eds_nil | with_reducible refine' eds_cons ?_ ?_
    | exact rd_addI | exact rd_sub | exact rd_ltI | exact rd_geI | exact rd_gtI | exact rd_le | exact rd_lt | exact rd_eqI | exact rd_neI | exact rd_eqS | exact rd_neS
    | exact rd_mulI (.inr ⟨by decide, by decide⟩) | exact rd_mulI (.inl ⟨by decide, by decide⟩) | exact rd_mod (by decide) | exact rd_div ⟨by decide, by decide⟩
    | exact ud_neg
    | exact et_yes
    | with_reducible refine' ed_op ?_ ?_ ?_ | with_reducible refine' ed_un ?_ ?_ | with_reducible refine' ed_tup ?_ ?_ | with_reducible refine' et_test ?_ | with_reducible refine' et_B ?_ | with_reducible refine ed_notV ?_ | with_reducible refine et_not ?_
    | exact cd_max2 | exact cd_min2 | exact cd_abs | exact cd_lenL | exact cd_lenT | exact cd_tupL | exact cd_tupT
    | exact ed_isi (by assumption) rfl
    | with_reducible refine' ed_cb ?_ ?_ ))
  · refine' ed_op (ed_op (ed_op (ed_op (ed_var rfl) (ed_var rfl) (rd_mulI (cmul_sq m.1 m.2))) ?_ ?_) ?_ ?_) ?_ ?_ <;> (repeat' (first
    | exact ed_var rfl | exact ed_int | exact ed_bl | exact ed_str | exact ed_non
    | exact eds_nil | with_reducible refine' eds_cons ?_ ?_
    | exact rd_addI | exact rd_sub | exact rd_ltI | exact rd_geI | exact rd_gtI | exact rd_le | exact rd_lt | exact rd_eqI | exact rd_neI | exact rd_eqS | exact rd_neS
    | exact rd_mulI (.inr ⟨by decide, by decide⟩) | exact rd_mulI (.inl ⟨by decide, by decide⟩) | exact rd_mod (by decide) | exact rd_div ⟨by decide, by decide⟩
    | exact ud_neg
    | exact et_yes
    | with_reducible refine' ed_op ?_ ?_ ?_ | with_reducible refine' ed_un ?_ ?_ | with_reducible refine' ed_tup ?_ ?_ | with_reducible refine' et_test ?_ | with_reducible refine' et_B ?_ | with_reducible refine ed_notV ?_ | with_reducible refine et_not ?_
    | exact cd_max2 | exact cd_min2 | exact cd_abs | exact cd_lenL | exact cd_lenT | exact cd_tupL | exact cd_tupT
    | exact ed_isi (by assumption) rfl
    | with_reducible refine' ed_cb ?_ ?_ ))
end
/-! ### _law_drawn -/
abbrev sLawDrawn : Stmt := topS 10
abbrev nLawDrawn : List Str := ["_law_number", "_law_k", "_law_drawn_here"]
theorem scLawDrawn : FnScope nLawDrawn ["_law_number", "_law_k"] (defScope sLawDrawn) := ⟨rfl, rfl, rfl, by decide +kernel, rfl, by decide +kernel, by decide +kernel⟩
section
variable {P : Program} {w : World} {K : PySem.W.Frag} {mg : Str → Option Value} {base : Heap} {f : Addr} {fd : FuncData} {k j : Nat}
theorem has__law_drawn (B : BI mg) (F : Fun K "_law_drawn" "_law_drawn" sLawDrawn f fd) (b : Binds K fd ["_law_number", "_law_k"] []) (hm : mg "_law_drawn" = some (.ref f)) : Has P w K mg base (k + 1) "_law_drawn" (SpR K RDrawn) := by
  refine has_of F b hm scLawDrawn (by decide) (fun ds r h => by obtain ⟨_, _, rfl, _⟩ := h; rfl) (fun cdv A outer s H E hr => ⟨_, (pss_cons (ps_set (i := 2) scLawDrawn.nd rfl (by first | exact .inl rfl | exact .inr rfl) (pe_op op_mod (pe_op (op_mulK K rfl) (pe_op (op_addK K rfl) (pe_op (op_addK K rfl) (pv 0) (pe_op (op_mulK K rfl) pe_int (pv 1))) pe_int) pe_int) pe_int))
    (pss_one (ps_ret (pe_op op_mod (pe_op (op_addK K rfl) (pe_op (op_addK K rfl) (pe_op (op_mulK K rfl) (pv 2) (pv 2)) (pe_op (op_mulK K rfl) pe_int (pv 2))) (pv 1)) pe_int)))), fun ds r h => ?_⟩)
  try dsimp only [cxOf, Cx.nox, Cx.wish]
  obtain ⟨n, z, rfl, h0, h1, rfl⟩ := h
  have m := mod_bd ((n + 104729 * z + 17) * 69621)
  refine xd_seq (xd_asg (d := .int ((n + 104729 * z + 17) * 69621 % 2147483647)) ?_) (xd_ret (d := .int (drawn n z)) ?_)
  · (repeat' (first
    | exact ed_var rfl | exact ed_int | exact ed_bl | exact ed_str | exact ed_non
    | exact eds_nil | with_reducible refine' eds_cons ?_ ?_
    | exact rd_addI | exact rd_sub | exact rd_ltI | exact rd_geI | exact rd_gtI | exact rd_le | exact rd_lt | exact rd_eqI | exact rd_neI | exact rd_eqS | exact rd_neS
    | exact rd_mulI (.inr ⟨by decide, by decide⟩) | exact rd_mulI (.inl ⟨by decide, by decide⟩) | exact rd_mod (by decide) | exact rd_div ⟨by decide, by decide⟩
    | exact ud_neg
    | exact et_yes
    | with_reducible refine' ed_op ?_ ?_ ?_ | with_reducible refine' ed_un ?_ ?_ | with_reducible refine' ed_tup ?_ ?_ | with_reducible refine' et_test ?_ | with_reducible refine' et_B ?_ | with_reducible refine ed_notV ?_ | with_reducible refine et_not ?_
    | exact cd_max2 | exact cd_min2 | exact cd_abs | exact cd_lenL | exact cd_lenT | exact cd_tupL | exact cd_tupT
    | exact ed_isi (by assumption) rfl
    | with_reducible refine' ed_cb ?_ ?_ ))
  · refine' ed_op (ed_op (ed_op (ed_op (ed_var rfl) (ed_var rfl) (rd_mulI (cmul_sq m.1 m.2))) ?_ ?_) ?_ ?_) ?_ ?_ <;> (repeat' (first
    | exact ed_var rfl | exact ed_int | exact ed_bl | exact ed_str | exact ed_non
    | exact eds_nil | with_reducible refine' eds_cons ?_ ?_
    | exact rd_addI | exact rd_sub | exact rd_ltI | exact rd_geI | exact rd_gtI | exact rd_le | exact rd_lt | exact rd_eqI | exact rd_neI | exact rd_eqS | exact rd_neS
    | exact rd_mulI (.inr ⟨by decide, by decide⟩) | exact rd_mulI (.inl ⟨by decide, by decide⟩) | exact rd_mod (by decide) | exact rd_div ⟨by decide, by decide⟩
    | exact ud_neg
    | exact et_yes
    | with_reducible refine' ed_op ?_ ?_ ?_ | with_reducible refine' ed_un ?_ ?_ | with_reducible refine' ed_tup ?_ ?_ | with_reducible refine' et_test ?_ | with_reducible refine' et_B ?_ | with_reducible refine ed_notV ?_ | with_reducible refine et_not ?_
    | exact cd_max2 | exact cd_min2 | exact cd_abs | exact cd_lenL | exact cd_lenT | exact cd_tupL | exact cd_tupT
    | exact ed_isi (by assumption) rfl
    | with_reducible refine' ed_cb ?_ ?_ ))
end
/-! ### _law_once -/
abbrev sLawOnce : Stmt := topS 11
abbrev nLawOnce : List Str := ["_law_some", "_law_found", "_law_one"]
theorem scLawOnce : FnScope nLawOnce ["_law_some"] (defScope sLawOnce) := ⟨rfl, rfl, rfl, by decide +kernel, rfl, by decide +kernel, by decide +kernel⟩
section
variable {P : Program} {w : World} {K : PySem.W.Frag} {mg : Str → Option Value} {base : Heap} {f : Addr} {fd : FuncData} {k j : Nat}
theorem has__law_once (B : BI mg) (F : Fun K "_law_once" "_law_once" sLawOnce f fd) (b : Binds K fd ["_law_some"] []) (hm : mg "_law_once" = some (.ref f)) : Has P w K mg base (k + 1) "_law_once" (SpR K ROnce) := by
  refine has_of F b hm scLawOnce (by decide) (fun ds r h => by obtain ⟨_, rfl, _⟩ := h; rfl) (fun cdv A outer s H E hr => ⟨_, (pss_cons (ps_set (i := 1) scLawOnce.nd rfl (by first | exact .inl rfl | exact .inr rfl) (pe_lst pa_nil))
    (pss_cons (ps_for PassesOwn.never rfl (pi_listK K rfl (pe_callB (cr_sortedK K rfl (hu100 hr)) (by rfl) B.sorted boot_sorted (pa_cons (pv 0) pa_nil))) (pg_name (i := 2) scLawOnce.nd rfl (by first | exact .inl rfl | exact .inr rfl)) (pss_one (ps_if (pw_or (pt_cmpR (op_eqK K rfl (hu64 hr)) (pv 1) (pe_lst pa_nil) (nomark _)) (pw_or1 (pt_cmpR (op_neK K rfl (hu64 hr)) (pe_ix (ix_K K rfl) (pv 1) (pe_un un_neg pe_int) (fun _ _ => rfl)) (pv 2) (nomark _)))).pt (pss_one (ps_expr (pe_bmK K rfl (pe_bm PySem.F.plainAttrs_list PySem.F.slot_list_append PySem.F.type_list_append mt_append (pv 1) (pa_cons (pv 2) pa_nil))))) pss_nil)))
    (pss_one (ps_ret (pe_callTy (call_tupleK K rfl) (by rfl) B.tuple boot_tuple (pa_cons (pv 1) pa_nil)))))), fun ds r h => ?_⟩)
  try dsimp only [cxOf, Cx.nox, Cx.wish]
  obtain ⟨ts, rfl, hf, hd, hn, rfl⟩ := h
  have o1 : ∀ i, T.Asc (T.once [] ((T.sort ts).take i)) ∧ ∀ x, x ∈ T.once [] ((T.sort ts).take i) ↔ x ∈ [] ∨ x ∈ (T.sort ts).take i := fun i => T.once_set ((T.sort ts).take i) [] List.Pairwise.nil ((T.sort_srt ts).sublist (List.take_sublist _ _)) (fun a ha => by cases ha)
  have on : ∀ i, ∀ x ∈ T.once [] ((T.sort ts).take i), x ∈ ts := fun i x hx => by
    rcases ((o1 i).2 x).mp hx with h | h
    · cases h
    · exact T.mem_sort.mp (List.mem_of_mem_take h)
  have dn : ∀ i, T.depths (T.once [] ((T.sort ts).take i)) ≤ 60 := fun i => T.depths_le fun x hx => Nat.le_trans (T.depth_mem (on i x hx)) hd
  have ln : ∀ i, (T.once [] ((T.sort ts).take i)).length ≤ 50000 := fun i => Nat.le_trans ((o1 i).1.nodup.length_le_of_subset (on i)) hn
  refine (show XD K _ [some (.list (ts.map T.data)), none, none] none _ from ?_)
  refine xd_seq (xd_asgOwn (el_lst eds_nil)) ?_
  refine xd_seq (xd_forL (fun _ => [some (.list (ts.map T.data)), none, none]) (fun i => some (1, (T.once [] ((T.sort ts).take i)).map T.data)) (ed_el (el_cb (eds_cons (ed_var rfl) eds_nil) (cl_sortedTr hf hd))) rfl rfl (fun i q e => by cases e; show (1 : Nat) ≠ 2; decide) (Go.allF (fun _ d => by simp) (fun _ => rfl) fun i d hi => ?_)) ?_
  · skip
    rw [List.getElem?_map] at hi
    obtain ⟨x, hx, rfl⟩ := Option.map_eq_some_iff.mp hi
    have hmem : x ∈ ts := T.mem_sort.mp (List.mem_of_getElem? hx)
    have hdx : x.depth ≤ 60 := Nat.le_trans (T.depth_mem hmem) hd
    have hd0 := dn i
    have hl0 := ln i
    rw [List.take_add_one, hx, Option.toList_some, T.once_app]
    generalize T.once [] ((T.sort ts).take i) = ys at *
    have sh : SeqAt.shaped (.list (ys.map T.data)) = true := (fit_lst.mpr (fit_Ts hd0)).shaped (by decide)
    have shx : SeqAt.shaped x.data = true := (fit_T (Nat.le_refl _)).shaped (by omega)
    refine xd_if (b := decide (ys.getLast? ≠ some x)) (et_is' (et_or (x := ys.isEmpty) (y := decide (ys.getLast? ≠ some x)) (et_is' (et_test (ed_op (ed_var rfl) (ed_el (el_lst eds_nil)) (rd_eqU sh rfl))) ?_) fun ne => ?_) ?_) (fun c => ?_) (fun c => ?_)
    · rw [eqv_list, eqvs_nil]; simp
    · have hne : ys ≠ [] := fun e => by rw [e] at ne; cases ne
      obtain ⟨zs, z, rfl⟩ : ∃ zs z, ys = zs ++ [z] := ⟨_, _, (List.dropLast_concat_getLast hne).symm⟩
      have hz : z.depth ≤ 60 := Nat.le_trans (T.depth_mem (by simp)) hd0
      refine et_is' (et_test (ed_op (ed_op (ed_var rfl) (ed_un ed_int ud_neg) (rd_ixUL (d := z.data) ?_)) (ed_var rfl) (rd_neU ((fit_T (Nat.le_refl _)).shaped (by omega)) shx))) ?_
      · rw [List.map_append]; exact atI_last
      · rw [T.data_eqv, List.getLast?_append]; simp
    · cases ys with
      | nil => simp
      | cons y ys => simp
    · have c' := of_decide_eq_true c
      rw [if_neg c', List.map_append]
      exact xd_app (ed_var rfl) (imm_T x) (by rw [List.length_map]; omega)
    · have c' := of_decide_eq_false c
      rw [if_pos (Classical.not_not.mp c')]
      exact xd_next
  · refine xd_ret (ed_cb (eds_cons (ed_var rfl) eds_nil) ?_)
    rw [List.length_map, List.take_length, T.once_sort]
    exact cd_tupL
end
/-! ### _law_by -/
abbrev sLawBy : Stmt := topS 12
abbrev nLawBy : List Str := ["_law_lefts", "_law_rights"]
theorem scLawBy : FnScope nLawBy ["_law_lefts", "_law_rights"] (defScope sLawBy) := ⟨rfl, rfl, rfl, by decide +kernel, rfl, by decide +kernel, by decide +kernel⟩
section
variable {P : Program} {w : World} {K : PySem.W.Frag} {mg : Str → Option Value} {base : Heap} {f : Addr} {fd : FuncData} {k j : Nat}
theorem has__law_by (B : BI mg) (F : Fun K "_law_by" "_law_by" sLawBy f fd) (b : Binds K fd ["_law_lefts", "_law_rights"] []) (hm : mg "_law_by" = some (.ref f)) (h__law_once : Has P w K mg base k "_law_once" (SpR K ROnce)) : Has P w K mg base (k + 1) "_law_by" (SpR K RBy) := by
  refine has_of F b hm scLawBy (by decide) (fun ds r h => by obtain ⟨_, _, rfl, _⟩ := h; rfl) (fun cdv A outer s H E hr => ⟨_, (pss_one (ps_ret (pe_tup (pa_cons (pe_h h__law_once hr (by omega) (by rfl) (pa_cons (pv 0) pa_nil)) (pa_cons (pe_h h__law_once hr (by omega) (by rfl) (pa_cons (pv 1) pa_nil)) pa_nil))))), fun ds r h => ?_⟩)
  try dsimp only [cxOf, Cx.nox, Cx.wish]
  obtain ⟨ls, rs, rfl, fl, fr, dl, dr, nl, nr, rfl⟩ := h
  rw [T.gm_data]
  exact xd_ret (ed_tup (eds_cons (ed_call (eds_cons (ed_var rfl) eds_nil) ⟨ls, rfl, fl, dl, nl, rfl⟩) (eds_cons (ed_call (eds_cons (ed_var rfl) eds_nil) ⟨rs, rfl, fr, dr, nr, rfl⟩) eds_nil)) (by simp))
end
/-! what a game is -/
def RRises (ds : List D) (r : D) : Prop := ∃ ts : List T, ds = [.tuple (ts.map T.data)] ∧ T.depths ts ≤ 60 ∧ ts.length ≤ 50000 ∧ r = .bool (ascB ts)
def ltD (x y : D) : D := .bool (T.lt (ofD x) (ofD y))
theorem zipm_zl : ∀ ts : List T, zipm ltD (((ts.map T.data)).take (ts.length - 1)) ((ts.map T.data).drop 1) = (zl ts).map PyData.bool
  | [] => rfl
  | [x] => rfl
  | x :: y :: r => by
    have ih := zipm_zl (y :: r)
    rw [List.map_cons, List.map_cons, zl, List.map_cons]
    show zipm ltD (x.data :: (y.data :: r.map T.data).take r.length) (y.data :: r.map T.data) = _
    rw [zipm]
    congr 1
    · unfold ltD; rw [ofD_data, ofD_data]
def RFits (F : Nat) (ds : List D) (r : D) : Prop := ∃ (d : D) (f : Nat), ds = [d, .int (13 - (f : Int))] ∧ f < F ∧ sz d ≤ 50000 ∧ r = .bool (okG f d)
def RIs (ds : List D) (r : D) : Prop := ∃ d : D, ds = [d] ∧ sz d ≤ 50000 ∧ r = .bool (okG 13 d)
def RLawIs (F : Nat) (ds : List D) (r : D) : Prop := ∃ (d : D) (f : Nat), ds = [d, .int (13 - (f : Int))] ∧ f < F ∧ sz d ≤ 50000 ∧ fitD 60 d ∧ r = .bool (okG f d)
/-- isinstance(x, tuple) -/
def isTup : D → Bool
  | .tuple _ => true
  | _ => false
theorem kb_tup (d : D) : kitB (tyD d) "tuple" = some (isTup d) := by
  rw [kb_tuple]
  cases d <;> rfl
theorem isTup_iff {d : D} (h : isTup d = true) : ∃ ds, d = .tuple ds := by
  cases d with
  | tuple ds => exact ⟨ds, rfl⟩
  | _ => cases h
theorem okG_shape {f : Nat} {d : D} (h : okG f d = true) : ∃ a b, d = .tuple [.tuple a, .tuple b] := by
  cases f with
  | zero => cases h
  | succ f =>
    unfold okG at h
    split at h
    · rename_i a b
      rw [Bool.and_eq_true] at h
      obtain ⟨ls, rfl, _⟩ := okRow_T (okG_T f) h.1
      obtain ⟨rs, rfl, _⟩ := okRow_T (okG_T f) h.2
      exact ⟨_, _, rfl⟩
    · cases h
theorem okG_len {f : Nat} {ds : List D} (h : ds.length ≠ 2) : okG (f + 1) (.tuple ds) = false := by
  unfold okG
  split
  · rename_i a b e
    cases e
    exact absurd rfl h
  · rfl
theorem okG_two (f : Nat) (a b : D) : okG (f + 1) (.tuple [a, b]) = (okRow (okG f) a && okRow (okG f) b) := rfl
theorem len_two {α : Type} {l : List α} (h : l.length = 2) : ∃ a b, l = [a, b] := by
  match l, h with
  | [a, b], _ => exact ⟨a, b, rfl⟩
def okRow' (n : Nat) : D → Bool
  | .tuple gs => gs.all (okG n)
  | _ => false
theorem okRow_le (n : Nat) (d : D) : okRow' n d = false → okRow (okG n) d = false := by
  cases d with
  | tuple gs => intro h; simp only [okRow, okRow'] at h ⊢; rw [h]; rfl
  | _ => intro _; rfl
theorem okRow'_T {n : Nat} {d : D} (h : okRow' n d = true) (hz : sz d ≤ 50000) : ∃ ts : List T, d = .tuple (ts.map T.data) ∧ T.depths ts ≤ 2 * n ∧ ts.length ≤ 50000 ∧ okRow (okG n) d = ascB ts := by
  cases d with
  | tuple gs =>
    simp only [okRow', List.all_eq_true] at h
    have e : gs = (gs.map ofD).map T.data := by
      rw [List.map_map]
      conv => lhs; rw [← List.map_id gs]
      exact List.map_congr_left fun d hx => (okG_T n d (h d hx)).1
    refine ⟨gs.map ofD, by rw [← e], ?_, ?_, ?_⟩
    · refine T.depths_le fun t ht => ?_
      obtain ⟨d, hx, rfl⟩ := List.mem_map.mp ht
      exact (okG_T n d (h d hx)).2
    · have := len_szs gs
      rw [sz] at hz
      rw [List.length_map]; omega
    · show (gs.all (okG n) && ascB (gs.map ofD)) = _
      rw [List.all_eq_true.mpr h, Bool.true_and]
  | _ => cases h
theorem dp_all {K : PySem.W.Frag} (gs : List D) (n : Nat) : CD K (rAll K) [.list (gs.map fun x => .bool (okG n x))] (.bool (okRow' n (.tuple gs))) := by
  have e : okRow' n (.tuple gs) = (gs.map (okG n)).all id := by
    rw [List.all_map]; rfl
  rw [e]
  exact cd_all (by rw [List.map_map]; rfl)
def lenNot2 : D → Bool
  | .tuple ds => !decide ((ds.length : Int) = 2)
  | _ => false
theorem deep_up (x : D) (n : Nat) : [x, PyData.int (13 - ((n + 1 : Nat) : Int) + 1)] = [x, .int (13 - (n : Int))] := by
  rw [show (13 - ((n + 1 : Nat) : Int) + 1) = 13 - (n : Int) by omega]
/-! ### what repr shows of trees, and that it tells them apart -/
def cd (s : Str) : List Nat := s.cps.toList
theorem cd_app (a b : Str) : cd (a ++ b) = cd a ++ cd b := by
  show (a.cps ++ b.cps).toList = _
  rw [Array.toList_append]
  rfl
theorem cd_inj {a b : Str} (h : cd a = cd b) : a = b := by
  obtain ⟨⟨x⟩⟩ := a
  obtain ⟨⟨y⟩⟩ := b
  have : x = y := h
  rw [this]
mutual
def cT : T → List Nat
  | .n ts => 40 :: cTs ts
def cTs : List T → List Nat
  | [] => [41]
  | t :: ts => cT t ++ rT ts true
def rT : List T → Bool → List Nat
  | [], true => [44, 41]
  | [], false => [41]
  | u :: us, _ => 44 :: 32 :: (cT u ++ rT us false)
end
mutual
theorem cT_pre : ∀ (t u : T) (x y : List Nat), cT t ++ x = cT u ++ y → t = u ∧ x = y
  | .n ts, .n us, x, y, h => by
    rw [cT, cT, List.cons_append, List.cons_append] at h
    injection h with _ h
    obtain ⟨e, h2⟩ := cTs_pre ts us x y h
    exact ⟨by rw [e], h2⟩
theorem cTs_pre : ∀ (ts us : List T) (x y : List Nat), cTs ts ++ x = cTs us ++ y → ts = us ∧ x = y
  | [], [], x, y, h => by
    rw [cTs] at h
    injection h with _ h
    exact ⟨rfl, h⟩
  | [], .n us :: vs, x, y, h => by
    rw [cTs, cTs, cT] at h
    injection h with h _
    cases h
  | .n ts :: vs, [], x, y, h => by
    rw [cTs, cTs, cT] at h
    injection h with h _
    cases h
  | t :: ts, u :: us, x, y, h => by
    rw [cTs, cTs, List.append_assoc, List.append_assoc] at h
    obtain ⟨e, h2⟩ := cT_pre t u _ _ h
    obtain ⟨e2, h3⟩ := rT_pre ts us true x y h2
    exact ⟨by rw [e, e2], h3⟩
theorem rT_pre : ∀ (ts us : List T) (b : Bool) (x y : List Nat), rT ts b ++ x = rT us b ++ y → ts = us ∧ x = y
  | [], [], b, x, y, h => by
    cases b with
    | true =>
      rw [rT] at h
      injection h with _ h
      injection h with _ h
      exact ⟨rfl, h⟩
    | false =>
      rw [rT] at h
      injection h with _ h
      exact ⟨rfl, h⟩
  | [], u :: us, b, x, y, h => by
    cases b with
    | true =>
      rw [rT, rT] at h
      injection h with _ h
      injection h with h _
      cases h
    | false =>
      rw [rT, rT] at h
      injection h with h _
      cases h
  | t :: ts, [], b, x, y, h => by
    cases b with
    | true =>
      rw [rT, rT] at h
      injection h with _ h
      injection h with h _
      cases h
    | false =>
      rw [rT, rT] at h
      injection h with h _
      cases h
  | t :: ts, u :: us, b, x, y, h => by
    rw [rT, rT, List.cons_append, List.cons_append, List.cons_append, List.cons_append, List.append_assoc, List.append_assoc] at h
    injection h with _ h
    injection h with _ h
    obtain ⟨e, h2⟩ := cT_pre t u _ _ h
    obtain ⟨e2, h3⟩ := rT_pre ts us false x y h2
    exact ⟨by rw [e, e2], h3⟩
end
theorem cd_open : cd ("(" : Str) = [40] := by decide +kernel
theorem cd_close : cd (")" : Str) = [41] := by decide +kernel
theorem cd_close1 : cd (",)" : Str) = [44, 41] := by decide +kernel
theorem cd_sep : cd (", " : Str) = [44, 32] := by decide +kernel
theorem cd_join : ∀ (x : Str) (xs : List Str), cd (Str.join ", " (x :: xs)) = cd x ++ ((xs.map cd).map fun y => 44 :: 32 :: y).flatten
  | x, [] => by
    show cd x = _
    simp
  | x, y :: r => by
    show cd (x ++ ", " ++ Str.join ", " (y :: r)) = _
    rw [cd_app, cd_app, cd_sep, cd_join y r]
    simp
theorem rT_flat : ∀ us : List T, rT us false = ((us.map cT).map fun y => 44 :: 32 :: y).flatten ++ [41]
  | [] => by rw [rT]; rfl
  | u :: us => by rw [rT, rT_flat us]; simp
theorem rT_more (u : T) (us : List T) : rT (u :: us) true = rT (u :: us) false := by rw [rT, rT]
mutual
theorem cd_T : ∀ t : T, cd (T.data t).shown = cT t
  | .n ts => by
    have h := shw_all ts
    rw [T.data, PyData.shown_tuple, cd_app, cd_app, cd_open, cT, List.append_assoc]
    refine congrArg (fun z => 40 :: z) ?_
    show cd (Str.join ", " (PyData.shownAll (T.datas ts))) ++ cd ((if ((T.datas ts).length == 1) = true then ",)" else ")" : String) : Str) = cTs ts
    match ts, h with
    | [], _ =>
      rw [T.datas, PyData.shownAll_nil, cTs]
      exact cd_close
    | [t], h =>
      rw [T.datas, T.datas, PyData.shownAll_cons, PyData.shownAll_nil] at h ⊢
      rw [List.map_cons, List.map_cons, List.map_nil, List.map_nil] at h
      injection h with h _
      rw [cTs, rT, cd_join, h]
      show (cT t ++ []) ++ cd ((",)" : String) : Str) = _
      rw [cd_close1, List.append_nil]
    | t :: u :: us, h =>
      rw [T.datas, PyData.shownAll_cons] at h ⊢
      rw [List.map_cons, List.map_cons] at h
      injection h with h1 h2
      rw [cTs, rT_more, rT_flat, cd_join, h1, h2, List.append_assoc]
      refine congrArg (fun z => cT t ++ ((List.map (fun y => 44 :: 32 :: y) (List.map cT (u :: us))).flatten ++ z)) ?_
      rw [if_neg (by rw [T.datas_eq]; simp)]
      exact cd_close
theorem shw_all : ∀ ts : List T, (PyData.shownAll (T.datas ts)).map cd = ts.map cT
  | [] => by rw [T.datas, PyData.shownAll_nil]; rfl
  | t :: ts => by rw [T.datas, PyData.shownAll_cons, List.map_cons, List.map_cons, cd_T t, shw_all ts]
end
theorem shown_inj {t u : T} (h : t.data.shown = u.data.shown) : t = u := by
  have := congrArg cd h
  rw [cd_T, cd_T] at this
  exact (cT_pre t u [] [] (by rw [List.append_nil, List.append_nil]; exact this)).1
/-- (game, who) -/
def kW (t : T) (v : Int) : D := .tuple [t.data, .int v]
theorem cd_kW (t : T) (v : Int) : cd (kW t v).shown = 40 :: (cT t ++ 44 :: 32 :: (cd (PyData.int v).shown ++ [41])) := by
  rw [kW, PyData.shown_tuple, PyData.shownAll_cons, PyData.shownAll_cons, PyData.shownAll_nil, cd_app, cd_app, cd_open, cd_join, cd_T]
  show [40] ++ (cT t ++ ([44 :: 32 :: cd (PyData.int v).shown] : List (List Nat)).flatten) ++ cd ((")" : String) : Str) = _
  rw [cd_close]
  simp
theorem cd_v (v : Int) (h : v = 0 ∨ v = 1) : cd (PyData.int v).shown = [48 + v.toNat] := by
  rcases h with rfl | rfl
  · rw [PyData.shown_int]; decide +kernel
  · rw [PyData.shown_int]; decide +kernel
theorem kW_inj {t u : T} {v z : Int} (hv : v = 0 ∨ v = 1) (hz : z = 0 ∨ z = 1) (h : (kW t v).shown = (kW u z).shown) : kW t v = kW u z := by
  have := congrArg cd h
  rw [cd_kW, cd_kW, cd_v v hv, cd_v z hz] at this
  injection this with _ this
  obtain ⟨e, h2⟩ := cT_pre t u _ _ this
  injection h2 with _ h2
  injection h2 with _ h2
  injection h2 with h2 _
  rw [e, show v = z by omega]
def RLaw (ds : List D) (r : D) : Prop := ∃ ns : List Int, ds = [.list (ns.map PyData.int)] ∧ r = .bool true
mutual
theorem eqv_self : ∀ d : D, d.canLay0 = true → PyData.eqv d d = true
  | .none, _ => by rw [PyData.eqv]
  | .bool b, _ => by rw [eqv_bool]; simp
  | .int i, _ => by rw [eqv_int]; simp
  | .str x, _ => by rw [eqv_str]; simp
  | .list ds, h => by rw [eqv_list]; exact eqvs_self ds (by simpa [PyData.canLay0] using h)
  | .tuple ds, h => by rw [eqv_tup]; exact eqvs_self ds (by simpa [PyData.canLay0] using h)
  | .dict _, h => by simp [PyData.canLay0] at h
theorem eqvs_self : ∀ ds : List D, PyData.canLayAll0 ds = true → PyData.eqvAll ds ds = true
  | [], _ => by simp [PyData.eqvAll]
  | d :: ds, h => by
    simp only [PyData.canLayAll0, Bool.and_eq_true] at h
    rw [PyData.eqvAll, eqv_self d h.1, eqvs_self ds h.2]; rfl
end
/-! ### texts of games as keys; who wins, by the law -/
mutual
theorem T_able : ∀ t : T, t.data.showable = true
  | .n ts => by rw [T.data, PyData.showable]; exact Ts_able ts
theorem Ts_able : ∀ ts : List T, PyData.showableAll (T.datas ts) = true
  | [] => by rw [T.datas, PyData.showableAll]
  | t :: ts => by rw [T.datas, PyData.showableAll, T_able t, Ts_able ts]; rfl
end
mutual
theorem T_noDict : ∀ t : T, t.data.hasDict = false
  | .n ts => by rw [T.data, PyData.hasDict]; exact Ts_noDict ts
theorem Ts_noDict : ∀ ts : List T, PyData.hasDictAll (T.datas ts) = false
  | [] => by rw [T.datas, PyData.hasDictAll]
  | t :: ts => by rw [T.datas, PyData.hasDictAll, T_noDict t, Ts_noDict ts]; rfl
end
mutual
theorem T_short : ∀ t : T, t.data.leavesShort 13 = true
  | .n ts => by rw [T.data, PyData.leavesShort]; exact Ts_short ts
theorem Ts_short : ∀ ts : List T, PyData.leavesShortAll 13 (T.datas ts) = true
  | [] => by rw [T.datas, PyData.leavesShortAll]
  | t :: ts => by rw [T.datas, PyData.leavesShortAll, T_short t, Ts_short ts]; rfl
end
mutual
def blk : T → Nat
  | .n ts => blks ts
def blks : List T → Nat
  | [] => 0
  | t :: ts => blk t + 1 + blks ts
end
mutual
theorem T_blk : ∀ t : T, t.data.bulk = blk t
  | .n ts => by rw [T.data, PyData.bulk, blk]; exact Ts_blk ts
theorem Ts_blk : ∀ ts : List T, PyData.bulkAll (T.datas ts) = blks ts
  | [] => by rw [T.datas, PyData.bulkAll, blks]
  | t :: ts => by rw [T.datas, PyData.bulkAll, blks, T_blk t, Ts_blk ts]
end
/-- repr((game, who)) -/
theorem ed_reprW {K : PySem.W.Frag} {ρ : Rho} {te : TE} {t : T} {v : Int} (h : ED K te ρ (kW t v)) (hv : v = 0 ∨ v = 1) (hd : t.depth ≤ 40) (hb : blk t ≤ 1048000) : ED K (tCB (rRepr K) (tCons te tNil)) ρ (.str (kW t v).shown) := by
  refine ed_cb (eds_cons h eds_nil) (cd_repr ⟨_, rfl⟩ ?_ ?_ ?_ ?_)
  · rw [kW, PyData.showable, PyData.showableAll, PyData.showableAll, PyData.showableAll, T_able, PyData.showable]
    rcases hv with rfl | rfl <;> decide +kernel
  · rw [kW, PyData.hasDict, PyData.hasDictAll, PyData.hasDictAll, PyData.hasDictAll, T_noDict, PyData.hasDict]; rfl
  · rw [kW, PyData.depth, PyData.depthAll, PyData.depthAll, PyData.depthAll, T.data_depth, PyData.depth]; omega
  · refine PyData.shown_fits_bulk (B := 13) (by decide) (by decide) ?_ ?_
    · rw [kW, PyData.leavesShort, PyData.leavesShortAll, PyData.leavesShortAll, PyData.leavesShortAll, T_short, PyData.leavesShort]
      rcases hv with rfl | rfl <;> decide +kernel
    · rw [kW, PyData.bulk, PyData.bulkAll, PyData.bulkAll, PyData.bulkAll, T_blk, PyData.bulk]
      have : (2 : Nat) ^ 20 = 1048576 := by decide
      omega
/-- repr((one, other)) -/
def kS (a b : T) : D := .tuple [a.data, b.data]
theorem ed_reprS {K : PySem.W.Frag} {ρ : Rho} {te : TE} {a b : T} (h : ED K te ρ (kS a b)) (ha : a.depth ≤ 40) (hb : b.depth ≤ 40) (ba : blk a ≤ 200000) (bb : blk b ≤ 200000) : ED K (tCB (rRepr K) (tCons te tNil)) ρ (.str (kS a b).shown) := by
  refine ed_cb (eds_cons h eds_nil) (cd_repr ⟨_, rfl⟩ ?_ ?_ ?_ ?_)
  · rw [kS, PyData.showable, PyData.showableAll, PyData.showableAll, PyData.showableAll, T_able, T_able]; rfl
  · rw [kS, PyData.hasDict, PyData.hasDictAll, PyData.hasDictAll, PyData.hasDictAll, T_noDict, T_noDict]; rfl
  · rw [kS, PyData.depth, PyData.depthAll, PyData.depthAll, PyData.depthAll, T.data_depth, T.data_depth]; omega
  · refine PyData.shown_fits_bulk (B := 13) (by decide) (by decide) ?_ ?_
    · rw [kS, PyData.leavesShort, PyData.leavesShortAll, PyData.leavesShortAll, PyData.leavesShortAll, T_short, T_short]; rfl
    · rw [kS, PyData.bulk, PyData.bulkAll, PyData.bulkAll, PyData.bulkAll, T_blk, T_blk]
      have : (2 : Nat) ^ 20 = 1048576 := by decide
      omega
def wnT : Nat → T → Int → Bool
  | 0, _, _ => false
  | f + 1, t, v => (opt t v).any fun x => !wnT f x (1 - v)
theorem wn_stable : ∀ (f g n : Nat) (t : T) (v : Int), isGm n t = true → n ≤ f → n ≤ g → wnT f t v = wnT g t v
  | f, g, 0, t, v, h, _, _ => by cases h
  | 0, _, n + 1, t, v, _, hf, _ => by omega
  | _ + 1, 0, n + 1, t, v, _, _, hg => by omega
  | f + 1, g + 1, n + 1, t, v, h, hf, hg => by
    unfold wnT
    exact any_same fun x hx => by rw [wn_stable f g n x (1 - v) (gm_opt h hx) (by omega) (by omega)]
def wnV (t : T) (v : Int) : Bool := wnT 30 t v
theorem wnV_eq {n : Nat} {t : T} {v : Int} (h : isGm n t = true) (hn : n ≤ 29) : wnV t v = (opt t v).any fun x => !wnV x (1 - v) := by
  cases n with
  | zero => cases h
  | succ n =>
    show wnT (29 + 1) t v = _
    unfold wnT
    exact any_same fun x hx => by rw [wn_stable 29 30 n x (1 - v) (gm_opt h hx) (by omega) (by omega)]; rfl
def WinF (Gs : T → Prop) (d : D) : Prop := ∃ t v, Gs t ∧ (v = 0 ∨ v = 1) ∧ d = kW t v
def wnF (d : D) : D := match d with
  | .tuple [a, .int v] => .bool (wnV (ofD a) v)
  | _ => .none
theorem wnF_eq (t : T) (v : Int) : wnF (kW t v) = .bool (wnV t v) := by
  show PyData.bool (wnV (ofD t.data) v) = _
  rw [ofD_data]
structure WnOk (Gs : T → Prop) : Prop where
  cl : ∀ t, Gs t → ∀ v x, x ∈ opt t v → Gs x
  bd : ∀ t, Gs t → isGm 20 t = true
  few : ∀ t, Gs t → ∀ v, (opt t v).length < 64
  dep : ∀ t, Gs t → t.depth ≤ 30
  bulk : ∀ t, Gs t → blk t ≤ 1047000
  fin : ∃ L : List T, L.length < 4000000 ∧ ∀ t, Gs t → t ∈ L
theorem WnOk.fam {Gs : T → Prop} (G : WnOk Gs) : FamS (WinF Gs) := by
  refine ⟨fun d e hd he h => ?_, ?_⟩
  · obtain ⟨t, v, _, hv, rfl⟩ := hd
    obtain ⟨u, z, _, hz, rfl⟩ := he
    exact kW_inj hv hz h
  · obtain ⟨L, l1, l2⟩ := G.fin
    refine ⟨L.map (kW · 0) ++ L.map (kW · 1), ?_, fun d hd => ?_⟩
    · rw [List.length_append, List.length_map, List.length_map, sizeLine_eq]; omega
    · obtain ⟨t, v, ht, hv, rfl⟩ := hd
      have := l2 t ht
      rcases hv with rfl | rfl
      · exact List.mem_append_left _ (List.mem_map.mpr ⟨t, this, rfl⟩)
      · exact List.mem_append_right _ (List.mem_map.mpr ⟨t, this, rfl⟩)
abbrev wnC (K : PySem.W.Frag) (Gs : T → Prop) : MO := cs K (WinF Gs) wnF none
def RWins (K : PySem.W.Frag) (Gs : T → Prop) (N : Nat) (xs : List SV) (μ : Mu) (r : SV) (μ' : Mu) : Prop :=
  ∃ t v n, xs = [.d (T.data t), .d (.int v), .o 0] ∧ μ = [wnC K Gs] ∧ Gs t ∧ (v = 0 ∨ v = 1) ∧ isGm n t = true ∧ n ≤ 20 ∧ n < N ∧ r = .d (.bool (wnV t v)) ∧ μ' = μ
/-- [x for x in trees if ..], the elements trees -/
theorem ex_filtTr {K : PySem.W.Frag} {ρ : Rx} {μ μ1 : Mu} {tl te : TE} {tt : TT} {j : Nat} {l : List T} (p : T → Bool) (hsrc : EX K tl ρ μ (.d (.tuple (l.map T.data))) μ1) (ht : ∀ t ∈ l, TX K tt ((wipeX ρ [j]).set j (some (.d t.data))) μ1 (p t) μ1) (he : ∀ t ∈ l, EX K te ((wipeX ρ [j]).set j (some (.d t.data))) μ1 (.d t.data) μ1) (hz : l.length ≤ 50000 := by omega) :
    EX K (tLc (iTup K tl) (gName j) tt te [j]) ρ μ (.d (.list ((l.filter p).map T.data))) μ1 := by
  have h := ex_filtT (K := K) (t := tt) (te := te) (j := j) (fun d => p (ofD d)) (fun d => d) hsrc (fun d hd => by
    obtain ⟨t, h, rfl⟩ := List.mem_map.mp hd
    rw [ofD_data]
    exact ht t h) (fun d hd _ => by
    obtain ⟨t, h, rfl⟩ := List.mem_map.mp hd
    exact he t h) (by rw [List.length_map]; exact hz)
  refine ex_is h ?_
  rw [List.map_id', List.filter_map]
  congr 3
  exact List.filter_congr fun t _ => by show p (ofD t.data) = p t; rw [ofD_data]
theorem filt_any (p : T → Bool) : ∀ l : List T, (!(PyData.eqv (.list ((l.filter p).map T.data)) (.list []))) = l.any p
  | [] => by rw [List.filter_nil, List.map_nil, eqv_list, eqvs_nil]; rfl
  | x :: l => by
    cases c : p x with
    | false =>
      rw [List.filter_cons_of_neg (by rw [c]; exact Bool.false_ne_true), filt_any p l, List.any_cons, c, Bool.false_or]
    | true =>
      rw [List.filter_cons_of_pos c, List.map_cons, eqv_list, eqvs_nil, List.any_cons, c]; rfl
theorem gs_none {P : Program} {w : World} {K : PySem.W.Frag} {mg : Str → Option Value} {base : Heap} {f : Addr} {fd : FuncData} {k : Nat} {x : Str} {st : Stmt} {ps : List Str} {sp : Sp} (F : Fun K x x st f fd) (b : Binds K fd ps []) (hm : mg x = some (.ref f)) (no : ∀ vs H Q E, ¬ sp vs H Q E) : HasG P w K mg base k x sp :=
  ⟨f, fd, ps, ⟨fun vs H Q E h => (no vs H Q E h).elim, fun A outer s H args us vs Q E _ _ _ _ _ h => (no _ _ _ _ h).elim⟩, hm, F.kp, b⟩
/-! ### _law_wins -/
abbrev sLawWins : Stmt := topS 14
abbrev nLawWins : List Str := ["_law_game_here", "_law_who", "_law_known", "_law_key", "_law_move"]
theorem scLawWins : FnScope nLawWins ["_law_game_here", "_law_who", "_law_known"] (defScope sLawWins) := ⟨rfl, rfl, rfl, by decide +kernel, rfl, by decide +kernel, by decide +kernel⟩
section
variable {P : Program} {w : World} {K : PySem.W.Frag} {mg : Str → Option Value} {base : Heap} {f : Addr} {fd : FuncData} {k j : Nat} {Gs : T → Prop}
theorem ex_wn {N n i : Nat} {ρ : Rx} {μ0 μ : Mu} {ta : TA} {t : T} {v : Int} (gt : Gs t) (hv : v = 0 ∨ v = 1) (it : isGm n t = true) (hn : n ≤ 20) (hN : n < N) (hi : μ[i]? = some (wnC K Gs)) (ha : EXs K ta ρ μ0 [.d t.data, .d (.int v), .o i] μ) :
    EX K (tCall (SpM K (RWins K Gs N)) [] E0 ta) ρ μ0 (.d (.bool (wnV t v))) μ := by
  have li := (List.getElem?_eq_some_iff.mp hi).1
  have h := ex_callM (K := K) (E := E0) (R := RWins K Gs N) (xs := [.d t.data, .d (.int v), .o 0]) [i] (μ1 := μ) (ρ := ρ) (μ := μ0) (ta := ta) ha (by simp) (by simpa using li) (seenN i hi rfl rfl) (fun y hy => by
    simp only [List.mem_cons, List.not_mem_nil, or_false] at hy
    rcases hy with rfl | rfl | rfl
    · exact True.intro
    · exact True.intro
    · exact Nat.zero_lt_one) ⟨t, v, n, rfl, rfl, gt, hv, it, hn, hN, rfl, rfl⟩
  refine ex_mu h ?_
  have e := back1 (μ := μ) (n := i) (m' := wnC K Gs) li rfl
  rw [set_self hi] at e
  exact e
theorem gs__law_wins1 (B : BI mg) (G : WnOk Gs) (F : Fun K "_law_wins" "_law_wins" sLawWins f fd) (b : Binds K fd ["_law_game_here", "_law_who", "_law_known"] []) (hm : mg "_law_wins" = some (.ref f)) {N : Nat}
    (h__law_wins : HasG P w K mg base k "_law_wins" (SpM K (RWins K Gs N))) : HasG P w K mg base (k + 1) "_law_wins" (SpM K (RWins K Gs (N + 1))) := by
  refine ⟨f, fd, _, gn_ofM F scLawWins (by decide) (fun xs μ r μ' h => by obtain ⟨_, _, _, rfl, _⟩ := h; rfl) (fun cdv A outer s H E gd hr => ⟨_, (pss_cons (ps_set (i := 3) scLawWins.nd rfl (by first | exact .inl rfl | exact .inr rfl) (pe_callB (cr_reprK K rfl gd (hu64 hr)) (by rfl) B.repr boot_repr (pa_cons (pe_tup (pa_cons (pv 0) (pa_cons (pv 1) pa_nil))) pa_nil)))
    (pss_cons (ps_if (pt_cmpR (op_notInS (hu_of hr)) (pv 3) (pv 2) (by with_unfolding_all rfl)) (pss_one (ps_asg (pe_cmpR (op_neK K rfl (hu64 hr)) (pe_lc (own := [("_law_move", 4)]) rfl scLawWins.nd (pi_tupK K rfl (pe_ix (ix_K K rfl) (pv 0) (pv 1) (fun _ _ => rfl))) (blkOk_by (N := nLawWins) (sc := defScope sLawWins) (by decide +kernel)) (fun _ _ _ _ _ => (pg_name (i := 4) scLawWins.nd rfl (by first | exact .inl rfl | exact .inr rfl))) (fun _ _ _ _ _ => pts_one (pt_not (pt_val (pe_hG h__law_wins gd hr (by omega) (by rfl) (pa_cons (pv 4) (pa_cons (pe_op op_sub pe_int (pv 1)) (pa_cons (pv 2) pa_nil))))))) (fun _ _ _ _ _ => (pv 4))) (pe_lst pa_nil) (nomark _)) (pg_sub (pv 2) (pv 3) (set_S (hu_of hr))))) pss_nil)
    (pss_one (ps_ret (pe_ix (ix_S (hu_of hr)) (pv 2) (pv 3) (fun _ _ => rfl)))))), fun xs μ r μ' h => ?_⟩), hm, F.kp, b⟩
  try dsimp only [cxOf, Cx.nox, Cx.wish]
  obtain ⟨t, v, n, rfl, rfl, gt, hv, it, hn, hN, rfl, rfl⟩ := h
  obtain ⟨n, rfl⟩ : ∃ q, n = q + 1 := by
    cases n with
    | zero => cases it
    | succ n => exact ⟨n, rfl⟩
  have fk : WinF Gs (kW t v) := ⟨t, v, gt, hv, rfl⟩
  obtain ⟨la, ea, ha⟩ := opt_data it (w := v) hv
  have fa := G.few t gt v
  have dt := G.dep t gt
  have bt := G.bulk t gt
  have hv' : 1 - v = 0 ∨ 1 - v = 1 := by omega
  refine .inl ?_
  refine (show XM K _ [some (.d t.data), some (.d (.int v)), some (.o 0), none, none] _ _ from ?_)
  refine xm_seq (ρ1 := [some (.d t.data), some (.d (.int v)), some (.o 0), some (.d (.str (kW t v).shown)), none]) (μ1 := [wnC K Gs]) (xm_asg (ex_pure (ed_reprW (ed_tup (eds_cons (ed_var rfl) (eds_cons (ed_var rfl) eds_nil)) (by simp)) hv (by omega) (by omega)))) ?_
  refine xm_seq (ρ1 := [some (.d t.data), some (.d (.int v)), some (.o 0), some (.d (.str (kW t v).shown)), none]) (μ1 := [cs K (WinF Gs) wnF (some (kW t v))]) (xm_unlessS (n := 0) G.fam (ex_var rfl) rfl (ex_var rfl) rfl ?_) ?_
  · have val : EX K _ [some (.d t.data), some (.d (.int v)), some (.o 0), some (.d (.str (kW t v).shown)), none] [wnC K Gs] (.d (.bool !(PyData.eqv (.list (((opt t v).filter fun x => !wnV x (1 - v)).map T.data)) (.list [])))) [wnC K Gs] :=
      ex_op (ex_filtTr (l := opt t v) (j := 4) (fun x => !wnV x (1 - v)) (ex_pure (ed_op (ed_var (i := 0) rfl) (ed_var (i := 1) rfl) (rd_ixUT' ea ha))) (fun x hx => tx_not (tx_B (ex_wn (N := N) (v := 1 - v) (G.cl t gt v x hx) hv' (gm_opt it hx) (by omega) (by omega) (i := 0) rfl (exs_cons (ex_var (i := 4) rfl) (exs_cons (ex_pure (ed_op ed_int (ed_var (i := 1) rfl) rd_sub)) (exs_cons (ex_var (i := 2) rfl) exs_nil)))))) (fun x hx => ex_var (i := 4) rfl)) (ex_pure (ed_el (el_lst eds_nil))) (rd_neU ((fit_lst.mpr (fit_Ts (n := 30) (T.depths_le fun x hx => G.dep x (G.cl t gt v x (List.mem_filter.mp hx).1)))).shaped (by decide)) rfl)
    refine xm_knownS (n := 0) G.fam (ex_is val ?_) (ex_var rfl) (ex_var rfl) rfl rfl fk
    rw [wnF_eq, wnV_eq it (by omega), filt_any]
  · exact xm_weakR (xm_ret (ex_is (ex_knownS (n := 0) G.fam (ex_var rfl) (ex_var rfl) rfl rfl fk) (by rw [wnF_eq]))) (le_cs (μ := [wnC K Gs]) (n := 0) rfl)
theorem gs__law_wins (B : BI mg) (G : WnOk Gs) (F : Fun K "_law_wins" "_law_wins" sLawWins f fd) (b : Binds K fd ["_law_game_here", "_law_who", "_law_known"] []) (hm : mg "_law_wins" = some (.ref f)) : ∀ N : Nat, HasG P w K mg base (k + N) "_law_wins" (SpM K (RWins K Gs N))
  | 0 => gs_none F b hm fun vs H Q E h => by obtain ⟨xs, μ, r, μ', Hm, α, _, _, _, ⟨_, _, _, _, _, _, _, _, _, h, _⟩, _⟩ := h; omega
  | N + 1 => gs__law_wins1 B G F b hm (gs__law_wins B G F b hm N)
end
/-! ### games beside one another, by the law -/
def adT : Nat → T → T → T
  | 0, a, _ => a
  | f + 1, a, b => T.gm (T.set ((opt a 0).map (fun x => adT f x b) ++ (opt b 0).map fun y => adT f a y)) (T.set ((opt a 1).map (fun x => adT f x b) ++ (opt b 1).map fun y => adT f a y))
theorem ad_stable : ∀ (f g n m : Nat) (a b : T), isGm n a = true → isGm m b = true → n + m ≤ f → n + m ≤ g → adT f a b = adT g a b
  | 0, _, n, m, a, b, ha, _, hf, _ => by
    have : n = 0 := by omega
    subst this
    cases ha
  | f + 1, 0, n, m, a, b, ha, _, _, hg => by
    have : n = 0 := by omega
    subst this
    cases ha
  | f + 1, g + 1, 0, m, a, b, ha, _, _, _ => by cases ha
  | f + 1, g + 1, n + 1, 0, a, b, _, hb, _, _ => by cases hb
  | f + 1, g + 1, n + 1, m + 1, a, b, ha, hb, hf, hg => by
    have r1 : ∀ v, (opt a v).map (fun x => adT f x b) = (opt a v).map fun x => adT g x b := fun v => List.map_congr_left fun x hx => ad_stable f g n (m + 1) x b (gm_opt ha hx) hb (by omega) (by omega)
    have r2 : ∀ v, ((opt b v).map fun y => adT f a y) = (opt b v).map fun y => adT g a y := fun v => List.map_congr_left fun y hy => ad_stable f g (n + 1) m a y ha (gm_opt hb hy) (by omega) (by omega)
    unfold adT
    rw [r1 0, r1 1, r2 0, r2 1]
def adV (a b : T) : T := adT 60 a b
def adRow (a b : T) (v : Int) : List T := (opt a v).map (fun x => adV x b) ++ (opt b v).map fun y => adV a y
theorem adV_eq {n m : Nat} {a b : T} (ha : isGm n a = true) (hb : isGm m b = true) (h : n + m ≤ 59) : adV a b = T.gm (T.set (adRow a b 0)) (T.set (adRow a b 1)) := by
  cases n with
  | zero => cases ha
  | succ n =>
    cases m with
    | zero => cases hb
    | succ m =>
      have r1 : ∀ v, (opt a v).map (fun x => adT 59 x b) = (opt a v).map fun x => adV x b := fun v => List.map_congr_left fun x hx => ad_stable 59 60 n (m + 1) x b (gm_opt ha hx) hb (by omega) (by omega)
      have r2 : ∀ v, ((opt b v).map fun y => adT 59 a y) = (opt b v).map fun y => adV a y := fun v => List.map_congr_left fun y hy => ad_stable 59 60 (n + 1) m a y ha (gm_opt hb hy) (by omega) (by omega)
      show adT (59 + 1) a b = _
      unfold adT adRow
      rw [r1 0, r1 1, r2 0, r2 1]
theorem adV_full (a b : T) : full (adV a b) = true := by
  show full (adT (59 + 1) a b) = true
  unfold adT
  rfl
theorem kS_inj {a b c d : T} (h : (kS a b).shown = (kS c d).shown) : kS a b = kS c d := by
  have h' : (T.n [a, b]).data.shown = (T.n [c, d]).data.shown := by
    rw [T.data_n, T.data_n]; exact h
  have := shown_inj h'
  injection this with this
  injection this with e1 this
  injection this with e2 _
  rw [e1, e2]
def SumF (Gp : T → Prop) (d : D) : Prop := ∃ a b, Gp a ∧ Gp b ∧ d = kS a b
def smF (d : D) : D := match d with
  | .tuple [a, b] => (adV (ofD a) (ofD b)).data
  | _ => .none
theorem smF_eq (a b : T) : smF (kS a b) = (adV a b).data := by
  show (adV (ofD a.data) (ofD b.data)).data = _
  rw [ofD_data, ofD_data]
structure SumOk (Gp : T → Prop) : Prop where
  cl : ∀ t, Gp t → ∀ v x, x ∈ opt t v → Gp x
  bd : ∀ t, Gp t → isGm 20 t = true
  few : ∀ t, Gp t → ∀ v, (opt t v).length < 64
  dep : ∀ t, Gp t → t.depth ≤ 30
  bulk : ∀ t, Gp t → blk t ≤ 200000
  fin : ∃ L : List T, L.length < 4000 ∧ ∀ t, Gp t → t ∈ L
  sum : ∀ a b, Gp a → Gp b → (adV a b).depth ≤ 40
theorem SumOk.fam {Gp : T → Prop} (G : SumOk Gp) : FamS (SumF Gp) := by
  refine ⟨fun d e hd he h => ?_, ?_⟩
  · obtain ⟨a, b, _, _, rfl⟩ := hd
    obtain ⟨c, d, _, _, rfl⟩ := he
    exact kS_inj h
  · obtain ⟨L, l1, l2⟩ := G.fin
    refine ⟨(L.flatMap fun a => L.map fun b => kS a b), ?_, fun d hd => ?_⟩
    · rw [List.length_flatMap, List.map_congr_left (g := fun _ => L.length) (fun a _ => by rw [List.length_map]), List.map_const', List.sum_replicate_nat, sizeLine_eq]
      have : L.length * L.length ≤ 4000 * 4000 := Nat.mul_le_mul (by omega) (by omega)
      omega
    · obtain ⟨a, b, ha, hb, rfl⟩ := hd
      exact List.mem_flatMap.mpr ⟨a, l2 a ha, List.mem_map.mpr ⟨b, l2 b hb, rfl⟩⟩
abbrev smC (K : PySem.W.Frag) (Gp : T → Prop) : MO := cs K (SumF Gp) smF none
def RSum (K : PySem.W.Frag) (Gp : T → Prop) (N : Nat) (xs : List SV) (μ : Mu) (r : SV) (μ' : Mu) : Prop :=
  ∃ a b n m, xs = [.d (T.data a), .d (T.data b), .o 0] ∧ μ = [smC K Gp] ∧ Gp a ∧ Gp b ∧ isGm n a = true ∧ isGm m b = true ∧ n ≤ 20 ∧ m ≤ 20 ∧ n + m < N ∧ r = .d (adV a b).data ∧ μ' = μ
theorem ex_ixO {K : PySem.W.Frag} {ρ : Rx} {μ : Mu} {ta tb : TE} {n : Nat} {ds : List D} {i : Int} {d : D} (ha : EX K ta ρ μ (.o n) μ) (hm : μ[n]? = some (.lst ds)) (hb : EX K tb ρ μ (.d (.int i)) μ) (h : atI ds i = some d) : EX K (tOp (rIx K) ta tb) ρ μ (.d d) μ := fun σ H Hm α s l hs S Q q =>
  ha σ H Hm α s l hs S _ fun x H1 Hm1 α1 A1 hx => hb σ H1 Hm1 α1 A1.gr.sub l (hs.aft A1) A1.sto _ fun y H2 Hm2 α2 A2 hy => by
    obtain ⟨a, ha, rfl⟩ := hx.mono A2.gr.em A2.pre
    obtain ⟨vs, k1, k2⟩ := A2.sto.ok n a _ ha hm
    have hl := k2.len
    unfold atI at h
    obtain ⟨j, h1, h2⟩ := Option.bind_eq_some_iff.mp h
    obtain ⟨v, h3, h4⟩ := k2.get h2
    exact .inl ⟨a, vs, i, v, rfl, dp_int hy, .inl (.inl k1), by unfold atI; rw [hl, h1]; exact h3, q v H2 Hm2 α2 (A1.trans A2) h4⟩
theorem ex_callR {K : PySem.W.Frag} {ρ : Rx} {μ μ1 : Mu} {ta : TA} {R : List D → D → Prop} {ds : List D} {r : D} (ha : EXs K ta ρ μ (ds.map .d) μ1) (h : R ds r) : EX K (tCall (SpR K R) [] E0 ta) ρ μ (.d r) μ1 := fun σ H Hm α s l hsx S Q q =>
  ha σ H Hm α s l hsx S _ fun vs H1 Hm1 α1 A1 h1 => by
    show SpR K R (vs ++ []) H1 Q E0
    rw [List.append_nil]
    exact ⟨ds, r, Hm1, A1.gr.sub, h1.data, h, fun v H2 Hm2 g hv => q v H2 Hm2 α1 (A1.trans (Aft.ofGr A1.sto g)) hv⟩
theorem adRow_ok {Gp : T → Prop} (G : SumOk Gp) {a b : T} (ga : Gp a) (gb : Gp b) (v : Int) : (∀ t ∈ adRow a b v, full t = true) ∧ T.depths (adRow a b v) ≤ 60 ∧ (adRow a b v).length ≤ 200 := by
  refine ⟨fun t ht => ?_, T.depths_le fun t ht => ?_, ?_⟩
  · unfold adRow at ht
    rcases List.mem_append.mp ht with ht | ht
    · obtain ⟨x, _, rfl⟩ := List.mem_map.mp ht; exact adV_full _ _
    · obtain ⟨x, _, rfl⟩ := List.mem_map.mp ht; exact adV_full _ _
  · unfold adRow at ht
    rcases List.mem_append.mp ht with ht | ht
    · obtain ⟨x, hx, rfl⟩ := List.mem_map.mp ht
      have := G.sum x b (G.cl a ga v x hx) gb
      omega
    · obtain ⟨x, hx, rfl⟩ := List.mem_map.mp ht
      have := G.sum a x ga (G.cl b gb v x hx)
      omega
  · unfold adRow
    rw [List.length_append, List.length_map, List.length_map]
    have := G.few a ga v
    have := G.few b gb v
    omega
/-! ### _law_sum -/
abbrev sLawSum : Stmt := topS 16
abbrev nLawSum : List Str := ["_law_one", "_law_other", "_law_known", "_law_key", "_law_rows", "_law_who", "_law_row", "_law_move"]
theorem scLawSum : FnScope nLawSum ["_law_one", "_law_other", "_law_known"] (defScope sLawSum) := ⟨rfl, rfl, rfl, by decide +kernel, rfl, by decide +kernel, by decide +kernel⟩
section
variable {P : Program} {w : World} {K : PySem.W.Frag} {mg : Str → Option Value} {base : Heap} {f : Addr} {fd : FuncData} {k j : Nat} {Gp : T → Prop}
theorem ex_sm {N n m i : Nat} {ρ : Rx} {μ0 μ : Mu} {ta : TA} {a b : T} (ga : Gp a) (gb : Gp b) (ia : isGm n a = true) (ib : isGm m b = true) (hn : n ≤ 20) (hm : m ≤ 20) (hN : n + m < N) (hi : μ[i]? = some (smC K Gp)) (ha : EXs K ta ρ μ0 [.d a.data, .d b.data, .o i] μ) :
    EX K (tCall (SpM K (RSum K Gp N)) [] E0 ta) ρ μ0 (.d (adV a b).data) μ := by
  have li := (List.getElem?_eq_some_iff.mp hi).1
  have h := ex_callM (K := K) (E := E0) (R := RSum K Gp N) (xs := [.d a.data, .d b.data, .o 0]) [i] (μ1 := μ) (ρ := ρ) (μ := μ0) (ta := ta) ha (by simp) (by simpa using li) (seenN i hi rfl rfl) (fun y hy => by
    simp only [List.mem_cons, List.not_mem_nil, or_false] at hy
    rcases hy with rfl | rfl | rfl
    · exact True.intro
    · exact True.intro
    · exact Nat.zero_lt_one) ⟨a, b, n, m, rfl, rfl, ga, gb, ia, ib, hn, hm, hN, rfl, rfl⟩
  refine ex_mu h ?_
  have e := back1 (μ := μ) (n := i) (m' := smC K Gp) li rfl
  rw [set_self hi] at e
  exact e
theorem gs__law_sum1 (B : BI mg) (G : SumOk Gp) (F : Fun K "_law_sum" "_law_sum" sLawSum f fd) (b : Binds K fd ["_law_one", "_law_other", "_law_known"] []) (hm : mg "_law_sum" = some (.ref f)) {N : Nat} (h__law_by : Has P w K mg base k "_law_by" (SpR K RBy))
    (h__law_sum : HasG P w K mg base k "_law_sum" (SpM K (RSum K Gp N))) : HasG P w K mg base (k + 1) "_law_sum" (SpM K (RSum K Gp (N + 1))) := by
  refine ⟨f, fd, _, gn_ofM F scLawSum (by decide) (fun xs μ r μ' h => by obtain ⟨_, _, _, _, rfl, _⟩ := h; rfl) (fun cdv A outer s H E gd hr => ⟨_, (pss_cons (ps_set (i := 3) scLawSum.nd rfl (by first | exact .inl rfl | exact .inr rfl) (pe_callB (cr_reprK K rfl gd (hu64 hr)) (by rfl) B.repr boot_repr (pa_cons (pe_tup (pa_cons (pv 0) (pa_cons (pv 1) pa_nil))) pa_nil)))
    (pss_cons (ps_if (pt_cmpR (op_notInS (hu_of hr)) (pv 3) (pv 2) (by with_unfolding_all rfl)) (pss_cons (ps_set (i := 4) scLawSum.nd rfl (by first | exact .inl rfl | exact .inr rfl) (pe_lst pa_nil))
    (pss_cons (ps_for PassesOwn.never rfl (pi_tupK K rfl (pe_tup (pa_cons pe_int (pa_cons pe_int pa_nil)))) (pg_name (i := 5) scLawSum.nd rfl (by first | exact .inl rfl | exact .inr rfl)) (pss_cons (ps_setLc (own := [("_law_move", 7)]) rfl scLawSum.nd (i := 6) rfl rfl (by rfl) (pi_tupK K rfl (pe_ix (ix_K K rfl) (pv 0) (pv 5) (fun _ _ => rfl))) (blkOk_by (N := nLawSum) (sc := defScope sLawSum) (by decide +kernel)) (fun _ _ _ _ _ => (pg_name (i := 7) scLawSum.nd rfl (by first | exact .inl rfl | exact .inr rfl))) (fun _ _ _ _ _ => pts_nil) (fun _ _ _ _ _ => (pe_hG h__law_sum gd hr (by omega) (by rfl) (pa_cons (pv 7) (pa_cons (pv 1) (pa_cons (pv 2) pa_nil))))))
    (pss_one (ps_expr (pe_bmK K rfl (pe_bm PySem.F.plainAttrs_list PySem.F.slot_list_append PySem.F.type_list_append mt_append (pv 4) (pa_cons (pe_op (op_addK K rfl) (pv 6) (pe_lc (own := [("_law_move", 7)]) rfl scLawSum.nd (pi_tupK K rfl (pe_ix (ix_K K rfl) (pv 1) (pv 5) (fun _ _ => rfl))) (blkOk_by (N := nLawSum) (sc := defScope sLawSum) (by decide +kernel)) (fun _ _ _ _ _ => (pg_name (i := 7) scLawSum.nd rfl (by first | exact .inl rfl | exact .inr rfl))) (fun _ _ _ _ _ => pts_nil) (fun _ _ _ _ _ => (pe_hG h__law_sum gd hr (by omega) (by rfl) (pa_cons (pv 0) (pa_cons (pv 7) (pa_cons (pv 2) pa_nil))))))) pa_nil)))))))
    (pss_one (ps_asg (pe_h h__law_by hr (by omega) (by rfl) (pa_cons (pe_ix (ix_K K rfl) (pv 4) pe_int (fun _ _ => rfl)) (pa_cons (pe_ix (ix_K K rfl) (pv 4) pe_int (fun _ _ => rfl)) pa_nil))) (pg_sub (pv 2) (pv 3) (set_S (hu_of hr))))))) pss_nil)
    (pss_one (ps_ret (pe_ix (ix_S (hu_of hr)) (pv 2) (pv 3) (fun _ _ => rfl)))))), fun xs μ r μ' h => ?_⟩), hm, F.kp, b⟩
  try dsimp only [cxOf, Cx.nox, Cx.wish]
  obtain ⟨a, b, n, m, rfl, rfl, ga, gb, ia, ib, hn, hm, hN, rfl, rfl⟩ := h
  obtain ⟨n, rfl⟩ : ∃ q, n = q + 1 := by
    cases n with
    | zero => cases ia
    | succ n => exact ⟨n, rfl⟩
  obtain ⟨m, rfl⟩ : ∃ q, m = q + 1 := by
    cases m with
    | zero => cases ib
    | succ m => exact ⟨m, rfl⟩
  have fk : SumF Gp (kS a b) := ⟨a, b, ga, gb, rfl⟩
  have da := G.dep a ga
  have db := G.dep b gb
  have ba := G.bulk a ga
  have bb := G.bulk b gb
  refine .inl ?_
  refine (show XM K _ [some (.d a.data), some (.d b.data), some (.o 0), none, none, none, none, none] _ _ from ?_)
  refine xm_seq (ρ1 := [some (.d a.data), some (.d b.data), some (.o 0), some (.d (.str (kS a b).shown)), none, none, none, none]) (μ1 := [smC K Gp]) (xm_asg (ex_pure (ed_reprS (ed_tup (eds_cons (ed_var rfl) (eds_cons (ed_var rfl) eds_nil)) (by simp)) (by omega) (by omega) ba bb))) ?_
  refine xm_seq (ρ1 := [some (.d a.data), some (.d b.data), some (.o 0), some (.d (.str (kS a b).shown)), none, none, none, none]) (μ1 := [cs K (SumF Gp) smF (some (kS a b))]) (xm_unlessS (n := 0) G.fam (ex_var rfl) rfl (ex_var rfl) rfl ?_) ?_
  · refine xm_less (n := 1) (ρ1 := [some (.d a.data), some (.d b.data), some (.o 0), some (.d (.str (kS a b).shown)), some (.o 1), none, none, none]) (μ1 := [cs K (SumF Gp) smF (some (kS a b)), .lst [.list ((adRow a b 0).map T.data), .list ((adRow a b 1).map T.data)]]) ?_ (Nat.le_refl _) rfl rfl (fun i x h => ?_)
    · refine xm_seq (ρ1 := [some (.d a.data), some (.d b.data), some (.o 0), some (.d (.str (kS a b).shown)), some (.o 1), none, none, none]) (μ1 := [smC K Gp, .lst []]) (xm_asg (ex_cell (ds := []) (el_lst eds_nil) rfl)) ?_
      refine xm_seq (ρ1 := [some (.d a.data), some (.d b.data), some (.o 0), some (.d (.str (kS a b).shown)), some (.o 1), none, none, none]) (μ1 := [smC K Gp, .lst [.list ((adRow a b 0).map T.data), .list ((adRow a b 1).map T.data)]]) (xm_forT (items := [.int 0, .int 1]) (fun _ => [some (.d a.data), some (.d b.data), some (.o 0), some (.d (.str (kS a b).shown)), some (.o 1), none, none, none]) (fun i => [smC K Gp, .lst (([.list ((adRow a b 0).map T.data), .list ((adRow a b 1).map T.data)] : List D).take i)]) (ex_pure (ed_tup (eds_cons ed_int (eds_cons ed_int eds_nil)) (by simp))) rfl rfl ⟨2, Nat.le_refl _, fun i d hi hd => ?_, .inl ⟨rfl, rfl⟩⟩) ?_
      · obtain ⟨v, hv, rfl, e⟩ : ∃ v : Int, (v = 0 ∨ v = 1) ∧ d = .int v ∧ (([.list ((adRow a b 0).map T.data), .list ((adRow a b 1).map T.data)] : List D).take (i + 1)) = (([.list ((adRow a b 0).map T.data), .list ((adRow a b 1).map T.data)] : List D).take i) ++ [.list ((adRow a b v).map T.data)] := by
          rcases i with _ | _ | i
          · cases hd; exact ⟨0, .inl rfl, rfl, rfl⟩
          · cases hd; exact ⟨1, .inr rfl, rfl, rfl⟩
          · omega
        have l2 : (([.list ((adRow a b 0).map T.data), .list ((adRow a b 1).map T.data)] : List D).take i).length ≤ 2 := by rw [List.length_take]; exact Nat.min_le_right _ _
        dsimp only
        rw [e]
        generalize (([.list ((adRow a b 0).map T.data), .list ((adRow a b 1).map T.data)] : List D).take i) = ds at *
        obtain ⟨la, ea, ha⟩ := opt_data ia (w := v) hv
        obtain ⟨lb, eb, hb⟩ := opt_data ib (w := v) hv
        have fa := G.few a ga v
        have fb := G.few b gb v
        refine (show XM K _ [some (.d a.data), some (.d b.data), some (.o 0), some (.d (.str (kS a b).shown)), some (.o 1), some (.d (.int v)), none, none] [smC K Gp, .lst ds] (.nx [some (.d a.data), some (.d b.data), some (.o 0), some (.d (.str (kS a b).shown)), some (.o 1), none, none, none] [smC K Gp, .lst (ds ++ [.list ((adRow a b v).map T.data)])]) from ?_)
        refine xm_less (ρ2 := [some (.d a.data), some (.d b.data), some (.o 0), some (.d (.str (kS a b).shown)), some (.o 1), none, none, none]) (μ := [smC K Gp, .lst ds]) (n := 2) (ρ1 := [some (.d a.data), some (.d b.data), some (.o 0), some (.d (.str (kS a b).shown)), some (.o 1), some (.d (.int v)), some (.d (.list (((opt a v).map fun x => adV x b).map T.data))), none]) (μ1 := [smC K Gp, .lst (ds ++ [.list ((adRow a b v).map T.data)])]) ?_ (Nat.le_refl _) rfl rfl (fun i x h => ?_)
        · refine xm_seq (ρ1 := [some (.d a.data), some (.d b.data), some (.o 0), some (.d (.str (kS a b).shown)), some (.o 1), some (.d (.int v)), some (.d (.list (((opt a v).map fun x => adV x b).map T.data))), none]) (μ1 := [smC K Gp, .lst ds]) (xm_asg (ex_treesT (l := opt a v) (fun x => adV x b) (ex_pure (ed_op (ed_var (i := 0) rfl) (ed_var (i := 5) rfl) (rd_ixUT' ea ha))) (fun x hx => ex_sm (N := N) (i := 0) (G.cl a ga v x hx) gb (gm_opt ia hx) ib (by omega) hm (by omega) rfl (exs_cons (ex_var (i := 7) rfl) (exs_cons (ex_var (i := 1) rfl) (exs_cons (ex_var (i := 2) rfl) exs_nil)))))) ?_
          refine xm_app (n := 1) rfl rfl (ex_is (ex_op (ex_var (i := 6) rfl) (ex_treesT (l := opt b v) (fun y => adV a y) (ex_pure (ed_op (ed_var (i := 1) rfl) (ed_var (i := 5) rfl) (rd_ixUT' eb hb))) (fun y hy => ex_sm (N := N) (i := 0) ga (G.cl b gb v y hy) ia (gm_opt ib hy) hn (by omega) (by omega) rfl (exs_cons (ex_var (i := 0) rfl) (exs_cons (ex_var (i := 7) rfl) (exs_cons (ex_var (i := 2) rfl) exs_nil))))) (rd_rl (rl_addL ?_))) ?_) rfl (by omega)
          · rw [List.length_map, List.length_map, List.length_map, List.length_map]; omega
          · unfold adRow
            rw [List.map_append]
        · rcases i with _ | _ | _ | _ | _ | _ | _ | _ | i
          · cases h; exact ⟨rfl, trivial⟩
          · cases h; exact ⟨rfl, trivial⟩
          · cases h; exact ⟨rfl, Nat.zero_lt_two⟩
          · cases h; exact ⟨rfl, trivial⟩
          · cases h; exact ⟨rfl, Nat.one_lt_two⟩
          all_goals simp at h
      · obtain ⟨f0, d0, l0⟩ := adRow_ok G ga gb 0
        obtain ⟨f1, d1, l1⟩ := adRow_ok G ga gb 1
        refine xm_knownS (n := 0) G.fam (ex_is (ex_callR (R := RBy) (ds := [.list ((adRow a b 0).map T.data), .list ((adRow a b 1).map T.data)]) (r := (T.gm (T.set (adRow a b 0)) (T.set (adRow a b 1))).data) (exs_cons (ex_ixO (n := 1) (ex_var (i := 4) rfl) rfl (ex_pure ed_int) rfl) (exs_cons (ex_ixO (n := 1) (ex_var (i := 4) rfl) rfl (ex_pure ed_int) rfl) exs_nil)) ⟨_, _, rfl, f0, f1, d0, d1, by omega, by omega, rfl⟩) ?_) (ex_var rfl) (ex_var rfl) rfl rfl fk
        rw [smF_eq, adV_eq ia ib (by omega)]
    · rcases i with _ | _ | _ | _ | _ | _ | _ | _ | i
      · cases h; exact ⟨rfl, trivial⟩
      · cases h; exact ⟨rfl, trivial⟩
      · cases h; exact ⟨rfl, Nat.zero_lt_one⟩
      · cases h; exact ⟨rfl, trivial⟩
      all_goals simp at h
  · exact xm_weakR (xm_ret (ex_is (ex_knownS (n := 0) G.fam (ex_var rfl) (ex_var rfl) rfl rfl fk) (by rw [smF_eq]))) (le_cs (μ := [smC K Gp]) (n := 0) rfl)
theorem gs__law_sum (B : BI mg) (G : SumOk Gp) (F : Fun K "_law_sum" "_law_sum" sLawSum f fd) (b : Binds K fd ["_law_one", "_law_other", "_law_known"] []) (hm : mg "_law_sum" = some (.ref f)) (h__law_by : Has P w K mg base k "_law_by" (SpR K RBy)) : ∀ N : Nat, HasG P w K mg base (k + N) "_law_sum" (SpM K (RSum K Gp N))
  | 0 => gs_none F b hm fun vs H Q E h => by obtain ⟨xs, μ, r, μ', Hm, α, _, _, _, ⟨_, _, n, m, _, _, _, _, _, _, _, _, h, _⟩, _⟩ := h; omega
  | N + 1 => gs__law_sum1 B G F b hm (h__law_by.mono (Nat.le_add_right k N)) (gs__law_sum B G F b hm h__law_by N)
end
end LM

set_option Elab.async false
set_option linter.all false
set_option maxRecDepth 100000
set_option maxHeartbeats 4000000
namespace LM
open PySem PySem.Spec PyProof.Rows L2 Evl
/-! ### sums and play: how games stand, by the law -/
theorem any_set (p : T → Bool) (l : List T) : (T.set l).any p = l.any p := by
  rw [Bool.eq_iff_iff, List.any_eq_true, List.any_eq_true]
  exact ⟨fun ⟨x, hx, e⟩ => ⟨x, T.mem_set.mp hx, e⟩, fun ⟨x, hx, e⟩ => ⟨x, T.mem_set.mpr hx, e⟩⟩
theorem tn_gm : ∀ (n : Nat) (t : T), isGm n t = true → n ≤ 29 → isGm n (tnV t) = true
  | 0, _, h, _ => by cases h
  | n + 1, t, h, hn => by
    rw [tnV_eq h hn]
    refine gm_set (fun x hx => ?_) fun x hx => ?_
    · obtain ⟨y, hy, rfl⟩ := List.mem_map.mp hx
      exact tn_gm n y (gm_opt h hy) (by omega)
    · obtain ⟨y, hy, rfl⟩ := List.mem_map.mp hx
      exact tn_gm n y (gm_opt h hy) (by omega)
theorem opt_tn {t : T} (h : Gam t) {v : Int} (hv : v = 0 ∨ v = 1) {x : T} : x ∈ opt (tnV t) v ↔ ∃ y ∈ opt t (1 - v), tnV y = x := by
  rw [tnV_eq h (by decide)]
  rcases hv with rfl | rfl
  · exact T.mem_set.trans List.mem_map
  · exact T.mem_set.trans List.mem_map
theorem opt_ad {n m : Nat} {a b : T} (ha : isGm n a = true) (hb : isGm m b = true) (h : n + m ≤ 59) {v : Int} (hv : v = 0 ∨ v = 1) {x : T} : x ∈ opt (adV a b) v ↔ (∃ y ∈ opt a v, adV y b = x) ∨ ∃ y ∈ opt b v, adV a y = x := by
  rw [adV_eq ha hb h]
  have e : ∀ v : Int, x ∈ adRow a b v ↔ (∃ y ∈ opt a v, adV y b = x) ∨ ∃ y ∈ opt b v, adV a y = x := fun v => by
    unfold adRow
    rw [List.mem_append, List.mem_map, List.mem_map]
  rcases hv with rfl | rfl
  · exact T.mem_set.trans (e 0)
  · exact T.mem_set.trans (e 1)
theorem ad_gm : ∀ (n m : Nat) (a b : T), isGm (n + 1) a = true → isGm (m + 1) b = true → n + m ≤ 55 → isGm (n + m + 1) (adV a b) = true
  | n, m, a, b, ha, hb, h => by
    rw [adV_eq ha hb (by omega)]
    have kid : ∀ v x, x ∈ adRow a b v → isGm (n + m) x = true := fun v x hx => by
      unfold adRow at hx
      rcases List.mem_append.mp hx with hx | hx
      · obtain ⟨y, hy, rfl⟩ := List.mem_map.mp hx
        have gy := gm_opt ha hy
        cases n with
        | zero => cases gy
        | succ n => exact gm_mono (ad_gm n m y b gy hb (by omega)) (by omega)
      · obtain ⟨y, hy, rfl⟩ := List.mem_map.mp hx
        have gy := gm_opt hb hy
        cases m with
        | zero => cases gy
        | succ m => exact gm_mono (ad_gm n m a y ha gy (by omega)) (by omega)
    exact gm_set (fun x hx => kid 0 x hx) fun x hx => kid 1 x hx
termination_by n m => n + m
/-- who wins the one beside the other turned about -/
theorem wn_sum : ∀ (s n m : Nat) (a b : T), n + m ≤ s → isGm n a = true → isGm m b = true → n ≤ 14 → m ≤ 14 → ∀ v, v = 0 ∨ v = 1 → wnV (adV a (tnV b)) v = !belowV a b v
  | _, 0, _, _, _, _, h, _, _, _, _, _ => by cases h
  | _, _ + 1, 0, _, _, _, _, h, _, _, _, _ => by cases h
  | 0, _ + 1, _ + 1, _, _, h, _, _, _, _, _, _ => by omega
  | s + 1, n + 1, m + 1, a, b, hs, ha, hb, hn, hm, v, hv => by
    have hv' : (1 : Int) - v = 0 ∨ (1 : Int) - v = 1 := by omega
    have tb := tn_gm (m + 1) b hb (by omega)
    have ga : Gam a := Gam.of ha (by omega)
    have gb : Gam b := Gam.of hb (by omega)
    have sg := ad_gm n m a (tnV b) ha tb (by omega)
    rw [wnV_eq sg (by omega), Bool.eq_iff_iff, List.any_eq_true, Bool.not_eq_true', ← Bool.not_eq_true, bl_iff ga gb hv]
    constructor
    · rintro ⟨x, hx, e⟩ ⟨c1, c2⟩
      rw [Bool.not_eq_true'] at e
      rcases (opt_ad ha tb (by omega) hv).mp hx with ⟨y, hy, rfl⟩ | ⟨y, hy, rfl⟩
      · rw [wn_sum s n (m + 1) y b (by omega) (gm_opt ha hy) hb (by omega) hm (1 - v) hv', below_flip hv, c1 y hy] at e
        cases e
      · obtain ⟨z, hz, rfl⟩ := (opt_tn gb hv).mp hy
        rw [wn_sum s (n + 1) m a z (by omega) ha (gm_opt hb hz) hn (by omega) (1 - v) hv', below_flip hv, c2 z hz] at e
        cases e
    · intro no
      refine Classical.byContradiction fun none => no ⟨fun y hy => Bool.eq_false_iff.mpr fun c => none ⟨adV y (tnV b), (opt_ad ha tb (by omega) hv).mpr (.inl ⟨y, hy, rfl⟩), ?_⟩, fun z hz => Bool.eq_false_iff.mpr fun c => none ⟨adV a (tnV z), (opt_ad ha tb (by omega) hv).mpr (.inr ⟨tnV z, (opt_tn gb hv).mpr ⟨z, hz, rfl⟩, rfl⟩), ?_⟩⟩
      · rw [wn_sum s n (m + 1) y b (by omega) (gm_opt ha hy) hb (by omega) hm (1 - v) hv', below_flip hv, c]; rfl
      · rw [wn_sum s (n + 1) m a z (by omega) ha (gm_opt hb hz) hn (by omega) (1 - v) hv', below_flip hv, c]; rfl
theorem law_le {a b : T} (ha : isGm 14 a = true) (hb : isGm 14 b = true) : (!wnV (adV a (tnV b)) 0) = leV a b := by
  rw [wn_sum 28 14 14 a b (by decide) ha hb (by decide) (by decide) 0 (.inl rfl), Bool.not_not]
  rfl
/-- the game without moves -/
def Z0 : T := T.gm [] []
theorem Z0_gam : Gam Z0 := by unfold Gam; rfl
/-- beside what is no better than nothing a game is no better -/
theorem ad_below : ∀ (s n m : Nat) (a z : T), n + m ≤ s → isGm n a = true → isGm m z = true → n ≤ 13 → m ≤ 13 → ∀ v, v = 0 ∨ v = 1 → belowV z Z0 v = true → belowV (adV a z) a v = true
  | _, 0, _, _, _, _, h, _, _, _, _, _, _ => by cases h
  | _, _ + 1, 0, _, _, _, _, h, _, _, _, _, _ => by cases h
  | 0, _ + 1, _ + 1, _, _, h, _, _, _, _, _, _, _ => by omega
  | s + 1, n + 1, m + 1, a, z, hs, ha, hz, hn, hm, v, hv, hb => by
    have hv' : (1 : Int) - v = 0 ∨ (1 : Int) - v = 1 := by omega
    have ga : Gam a := Gam.of ha (by omega)
    have gz : Gam z := Gam.of hz (by omega)
    have sg := ad_gm n m a z ha hz (by omega)
    have gs : Gam (adV a z) := Gam.of sg (by omega)
    refine (bl_iff gs ga hv).mpr ⟨fun x hx => Bool.eq_false_iff.mpr fun c => ?_, fun y hy => Bool.eq_false_iff.mpr fun c => ?_⟩
    · rcases (opt_ad ha hz (by omega) hv).mp hx with ⟨y, hy, rfl⟩ | ⟨y, hy, rfl⟩
      · have ih := ad_below s n (m + 1) y z (by omega) (gm_opt ha hy) hz (by omega) hm v hv hb
        have := bl_trans ga (gs.opt hx) (ga.opt hy) hv c ih
        rw [bl_own ga hv hy] at this
        cases this
      · have gy := gz.opt hy
        have n1 := ((bl_iff gz Z0_gam hv).mp hb).1 y hy
        obtain ⟨r, hr, br⟩ : ∃ r ∈ opt y (1 - v), belowV r Z0 v = true := by
          refine Classical.byContradiction fun no => Bool.eq_false_iff.mp n1 ((bl_iff Z0_gam gy hv).mpr ⟨fun x hx => ?_, fun r hr => Bool.eq_false_iff.mpr fun c => no ⟨r, hr, c⟩⟩)
          rcases hv with rfl | rfl <;> cases hx
        have iy := gm_opt hz hy
        cases m with
        | zero => cases iy
        | succ m =>
          have ir := gm_opt iy hr
          have ih := ad_below s (n + 1) m a r (by omega) ha ir hn (by omega) v hv br
          have := ((bl_iff ga (gs.opt hx) hv).mp c).2 (adV a r) ((opt_ad ha iy (by omega) hv').mpr (.inr ⟨r, hr, rfl⟩))
          rw [ih] at this
          cases this
    · have ih := ad_below s n (m + 1) y z (by omega) (gm_opt ha hy) hz (by omega) hm v hv hb
      have := ((bl_iff (ga.opt hy) gs hv).mp c).2 (adV y z) ((opt_ad ha hz (by omega) hv').mpr (.inl ⟨y, hy, rfl⟩))
      rw [ih] at this
      cases this
theorem ad_zero {a z : T} (ha : isGm 13 a = true) (hz : isGm 13 z = true) (e : Eqv z Z0) : Eqv (adV a z) a :=
  eqv_bl (ad_below 26 13 13 a z (by decide) ha hz (by decide) (by decide) 0 (.inl rfl) (e.bl (.inl rfl)).1) (ad_below 26 13 13 a z (by decide) ha hz (by decide) (by decide) 1 (.inr rfl) (e.bl (.inr rfl)).1)
/-- a move more, that is no better: the same worth -/
theorem eqv_more {g h : T} (hg : Gam g) (hh : Gam h) {u : Int} {m : T} (ho : ∀ v, v = 0 ∨ v = 1 → ∀ x, x ∈ opt h v ↔ x ∈ opt g v ∨ (v = u ∧ x = m)) (hm : belowV g m u = false) : Eqv g h := by
  refine eqv_by hg hh (fun v hv x hx => ?_) (fun v hv x hx => bl_own hh hv ((ho v hv x).mpr (.inl hx)))
  rcases (ho v hv x).mp hx with hx | ⟨rfl, rfl⟩
  · exact bl_own hg hv hx
  · exact hm
/-- a move to which one can answer by going back -/
theorem back_no {g m : T} (hg : Gam g) (hm : Gam m) {u : Int} (hu : u = 0 ∨ u = 1) (h : g ∈ opt m (1 - u)) : belowV g m u = false := by
  refine Bool.eq_false_iff.mpr fun c => ?_
  have := ((bl_iff hg hm hu).mp c).2 g h
  rw [bl_refl hg hu] at this
  cases this
/-! ### how many positions games have -/
def sumN (f : T → Nat) : List T → Nat
  | [] => 0
  | x :: l => f x + sumN f l
theorem sumN_app (f : T → Nat) : ∀ l m : List T, sumN f (l ++ m) = sumN f l + sumN f m
  | [], m => by rw [List.nil_append]; show _ = 0 + _; omega
  | x :: l, m => by
    show f x + sumN f (l ++ m) = f x + sumN f l + sumN f m
    rw [sumN_app f l m]; omega
theorem sumN_le {f g : T → Nat} : ∀ {l : List T}, (∀ x ∈ l, f x ≤ g x) → sumN f l ≤ sumN g l
  | [], _ => Nat.le_refl _
  | x :: l, h => Nat.add_le_add (h x List.mem_cons_self) (sumN_le fun y hy => h y (List.mem_cons_of_mem _ hy))
theorem sumN_map (f : T → Nat) (g : T → T) : ∀ l : List T, sumN f (l.map g) = sumN (fun x => f (g x)) l
  | [] => rfl
  | x :: l => by
    show f (g x) + sumN f (l.map g) = f (g x) + _
    rw [sumN_map f g l]
theorem sumN_uins (f : T → Nat) (x : T) : ∀ l : List T, sumN f (T.uins x l) ≤ f x + sumN f l
  | [] => Nat.le_refl _
  | y :: l => by
    unfold T.uins
    split
    · exact Nat.le_refl _
    · show f y + sumN f l ≤ f x + (f y + sumN f l)
      omega
    · have := sumN_uins f x l
      show f y + sumN f (T.uins x l) ≤ f x + (f y + sumN f l)
      omega
theorem sumN_set (f : T → Nat) : ∀ l : List T, sumN f (T.set l) ≤ sumN f l
  | [] => Nat.le_refl _
  | x :: l => by
    have h1 := sumN_uins f x (T.set l)
    have h2 := sumN_set f l
    show sumN f (T.uins x (T.set l)) ≤ f x + sumN f l
    omega
/-- positions behind so many moves -/
def prf : Nat → T → Nat
  | 0, _ => 1
  | d + 1, t => sumN (prf d) (opt t 0) + sumN (prf d) (opt t 1)
def cv : Nat → (Nat → Nat) → (Nat → Nat) → Nat
  | 0, p, q => p 0 * q 0
  | d + 1, p, q => cv d (fun i => p (i + 1)) q + cv d p fun i => q (i + 1)
theorem cv_mono : ∀ (d : Nat) {p p' q q' : Nat → Nat}, (∀ i, p i ≤ p' i) → (∀ i, q i ≤ q' i) → cv d p q ≤ cv d p' q'
  | 0, _, _, _, _, h, k => Nat.mul_le_mul (h 0) (k 0)
  | d + 1, _, _, _, _, h, k => Nat.add_le_add (cv_mono d (fun i => h (i + 1)) k) (cv_mono d h fun i => k (i + 1))
theorem cv_add1 : ∀ (d : Nat) (p p' q : Nat → Nat), cv d (fun i => p i + p' i) q = cv d p q + cv d p' q
  | 0, p, p', q => Nat.add_mul _ _ _
  | d + 1, p, p', q => by
    show cv d (fun i => p (i + 1) + p' (i + 1)) q + cv d (fun i => p i + p' i) (fun i => q (i + 1)) = _
    rw [cv_add1 d (fun i => p (i + 1)) (fun i => p' (i + 1)) q, cv_add1 d p p' fun i => q (i + 1)]
    show _ = (cv d _ _ + cv d _ _) + (cv d _ _ + cv d _ _)
    omega
theorem cv_add2 : ∀ (d : Nat) (p q q' : Nat → Nat), cv d p (fun i => q i + q' i) = cv d p q + cv d p q'
  | 0, p, q, q' => Nat.mul_add _ _ _
  | d + 1, p, q, q' => by
    show cv d (fun i => p (i + 1)) (fun i => q i + q' i) + cv d p (fun i => q (i + 1) + q' (i + 1)) = _
    rw [cv_add2 d (fun i => p (i + 1)) q q', cv_add2 d p (fun i => q (i + 1)) fun i => q' (i + 1)]
    show _ = (cv d _ _ + cv d _ _) + (cv d _ _ + cv d _ _)
    omega
theorem cv_zero1 : ∀ (d : Nat) (q : Nat → Nat), cv d (fun _ => 0) q = 0
  | 0, q => Nat.zero_mul _
  | d + 1, q => by
    show cv d (fun _ => 0) q + cv d (fun _ => 0) _ = 0
    rw [cv_zero1 d, cv_zero1 d]
theorem cv_zero2 : ∀ (d : Nat) (p : Nat → Nat), cv d p (fun _ => 0) = 0
  | 0, p => Nat.mul_zero _
  | d + 1, p => by
    show cv d _ (fun _ => 0) + cv d _ (fun _ => 0) = 0
    rw [cv_zero2 d, cv_zero2 d]
theorem cv_sum1 (d : Nat) (q : Nat → Nat) : ∀ l : List T, cv d (fun i => sumN (prf i) l) q = sumN (fun x => cv d (fun i => prf i x) q) l
  | [] => cv_zero1 d q
  | x :: l => by
    show cv d (fun i => prf i x + sumN (prf i) l) q = cv d (fun i => prf i x) q + sumN _ l
    rw [cv_add1 d (fun i => prf i x) (fun i => sumN (prf i) l) q, cv_sum1 d q l]
theorem cv_sum2 (d : Nat) (p : Nat → Nat) : ∀ l : List T, cv d p (fun i => sumN (prf i) l) = sumN (fun x => cv d p (fun i => prf i x)) l
  | [] => cv_zero2 d p
  | x :: l => by
    show cv d p (fun i => prf i x + sumN (prf i) l) = cv d p (fun i => prf i x) + sumN _ l
    rw [cv_add2 d p (fun i => prf i x) (fun i => sumN (prf i) l), cv_sum2 d p l]
theorem prf_ad : ∀ (d n m : Nat) (a b : T), isGm n a = true → isGm m b = true → n + m ≤ 59 → prf d (adV a b) ≤ cv d (fun i => prf i a) fun i => prf i b
  | 0, _, _, _, _, _, _, _ => Nat.le_refl 1
  | d + 1, 0, _, _, _, h, _, _ => by cases h
  | d + 1, n + 1, 0, _, _, _, h, _ => by cases h
  | d + 1, n + 1, m + 1, a, b, ha, hb, h => by
    have row : ∀ v, sumN (prf d) (T.set (adRow a b v)) ≤ sumN (fun x => cv d (fun i => prf i x) fun i => prf i b) (opt a v) + sumN (fun y => cv d (fun i => prf i a) fun i => prf i y) (opt b v) := fun v => by
      refine Nat.le_trans (sumN_set _ _) ?_
      unfold adRow
      rw [sumN_app, sumN_map, sumN_map]
      exact Nat.add_le_add (sumN_le fun x hx => prf_ad d n (m + 1) x b (gm_opt ha hx) hb (by omega)) (sumN_le fun y hy => prf_ad d (n + 1) m a y ha (gm_opt hb hy) (by omega))
    rw [adV_eq ha hb h]
    show sumN (prf d) (T.set (adRow a b 0)) + sumN (prf d) (T.set (adRow a b 1)) ≤ cv d (fun i => sumN (prf i) (opt a 0) + sumN (prf i) (opt a 1)) (fun i => prf i b) + cv d (fun i => prf i a) (fun i => sumN (prf i) (opt b 0) + sumN (prf i) (opt b 1))
    rw [cv_add1, cv_add2, cv_sum1, cv_sum1, cv_sum2, cv_sum2]
    have := row 0
    have := row 1
    omega
theorem prf_tn : ∀ (d n : Nat) (t : T), isGm n t = true → n ≤ 29 → prf d (tnV t) ≤ prf d t
  | 0, _, _, _, _ => Nat.le_refl 1
  | d + 1, 0, _, h, _ => by cases h
  | d + 1, n + 1, t, h, hn => by
    have row : ∀ v, sumN (prf d) (T.set ((opt t v).map tnV)) ≤ sumN (prf d) (opt t v) := fun v => by
      refine Nat.le_trans (sumN_set _ _) ?_
      rw [sumN_map]
      exact sumN_le fun x hx => prf_tn d n x (gm_opt h hx) (by omega)
    rw [tnV_eq h hn]
    show sumN (prf d) (T.set ((opt t 1).map tnV)) + sumN (prf d) (T.set ((opt t 0).map tnV)) ≤ sumN (prf d) (opt t 0) + sumN (prf d) (opt t 1)
    have := row 0
    have := row 1
    omega
/-- all positions -/
def tot : Nat → T → Nat
  | 0, _ => 0
  | n + 1, t => tot n t + prf n t
def upN (p : Nat → Nat) : Nat → Nat
  | 0 => 0
  | n + 1 => upN p n + p n
theorem tot_le {p : Nat → Nat} {t : T} (h : ∀ d, prf d t ≤ p d) : ∀ n, tot n t ≤ upN p n
  | 0 => Nat.le_refl _
  | n + 1 => Nat.add_le_add (tot_le h n) (h n)
theorem tot_step : ∀ (n : Nat) (t : T), tot (n + 1) t = 1 + (sumN (tot n) (opt t 0) + sumN (tot n) (opt t 1))
  | 0, t => by
    have z : ∀ l : List T, sumN (tot 0) l = 0 := fun l => by
      induction l with
      | nil => rfl
      | cons x l ih => show 0 + sumN (tot 0) l = 0; rw [ih]
    rw [z, z]; rfl
  | n + 1, t => by
    show tot (n + 1) t + prf (n + 1) t = _
    rw [tot_step n t]
    have e : ∀ l : List T, sumN (tot (n + 1)) l = sumN (tot n) l + sumN (prf n) l := fun l => by
      induction l with
      | nil => rfl
      | cons x l ih =>
        show (tot n x + prf n x) + sumN (tot (n + 1)) l = (tot n x + sumN (tot n) l) + (prf n x + sumN (prf n) l)
        rw [ih]; omega
    rw [e, e]
    show _ + (sumN (prf n) (opt t 0) + sumN (prf n) (opt t 1)) = _
    omega
theorem blks_sum : ∀ l : List T, blks l = sumN (fun x => blk x + 1) l
  | [] => by rw [blks]; rfl
  | x :: l => by
    rw [blks, blks_sum l]; rfl
theorem blk_tot : ∀ (n : Nat) (t : T), isGm n t = true → blk t + 1 = 3 * tot n t
  | 0, _, h => by cases h
  | n + 1, t, h => by
    obtain ⟨a, b, rfl⟩ := gm_shape h
    have e : ∀ v, sumN (fun x => blk x + 1) (opt (.n [.n a, .n b]) v) = 3 * sumN (tot n) (opt (.n [.n a, .n b]) v) := fun v => by
      have all : ∀ l : List T, (∀ x ∈ l, isGm n x = true) → sumN (fun x => blk x + 1) l = 3 * sumN (tot n) l := fun l hl => by
        induction l with
        | nil => rfl
        | cons x l ih =>
          show blk x + 1 + sumN _ l = 3 * (tot n x + sumN (tot n) l)
          rw [blk_tot n x (hl x List.mem_cons_self), ih fun y hy => hl y (List.mem_cons_of_mem _ hy)]
          omega
      exact all _ fun x hx => gm_opt h hx
    rw [tot_step, blk, blks, blks, blks, blk, blk, blks_sum, blks_sum]
    have e0 := e 0
    have e1 := e 1
    have o0 : opt (.n [.n a, .n b]) 0 = a := rfl
    have o1 : opt (.n [.n a, .n b]) 1 = b := rfl
    rw [o0] at e0 ⊢
    rw [o1] at e1 ⊢
    omega
/-- all that comes, with repeats -/
def subsL : Nat → T → List T
  | 0, _ => []
  | n + 1, t => t :: (opt t 0 ++ opt t 1).flatMap (subsL n)
theorem subs_len : ∀ (n : Nat) (t : T), (subsL n t).length = tot n t
  | 0, _ => rfl
  | n + 1, t => by
    have e : ∀ l : List T, (l.flatMap (subsL n)).length = sumN (tot n) l := fun l => by
      induction l with
      | nil => rfl
      | cons x l ih =>
        rw [List.flatMap_cons, List.length_append, ih, subs_len n x]; rfl
    rw [tot_step]
    show ((opt t 0 ++ opt t 1).flatMap (subsL n)).length + 1 = _
    rw [e, sumN_app]
    omega
theorem subs_self {n : Nat} {t : T} (h : isGm n t = true) : t ∈ subsL n t := by
  cases n with
  | zero => cases h
  | succ n => exact List.mem_cons_self
theorem subs_opt : ∀ (n : Nat) (t x y : T) (v : Int), isGm n t = true → x ∈ subsL n t → y ∈ opt x v → y ∈ subsL n t
  | 0, _, _, _, _, h, _, _ => by cases h
  | n + 1, t, x, y, v, h, hx, hy => by
    refine List.mem_cons_of_mem _ (List.mem_flatMap.mpr ?_)
    rcases List.mem_cons.mp hx with rfl | hx
    · have iy := gm_opt h hy
      refine ⟨y, ?_, subs_self iy⟩
      by_cases e : v = 0
      · rw [e] at hy
        exact List.mem_append_left _ hy
      · refine List.mem_append_right _ ?_
        obtain ⟨a, b, rfl⟩ := gm_shape h
        have hy' : y ∈ (if v = 0 then a else b) := hy
        rwa [if_neg e] at hy'
    · obtain ⟨z, hz, h2⟩ := List.mem_flatMap.mp hx
      have iz : isGm n z = true := by
        rcases List.mem_append.mp hz with hz | hz
        · exact gm_opt h hz
        · exact gm_opt h hz
      exact ⟨z, hz, subs_opt n z x y v iz h2 hy⟩
theorem subs_gm : ∀ (n : Nat) (t x : T), isGm n t = true → x ∈ subsL n t → isGm n x = true
  | 0, _, _, h, _ => by cases h
  | n + 1, t, x, h, hx => by
    rcases List.mem_cons.mp hx with rfl | hx
    · exact h
    · obtain ⟨z, hz, h2⟩ := List.mem_flatMap.mp hx
      have iz : isGm n z = true := by
        rcases List.mem_append.mp hz with hz | hz
        · exact gm_opt h hz
        · exact gm_opt h hz
      exact gm_mono (subs_gm n z x iz h2) (by omega)
theorem sumN_mem {f : T → Nat} {x : T} : ∀ {l : List T}, x ∈ l → f x ≤ sumN f l
  | y :: l, h => by
    rcases List.mem_cons.mp h with rfl | h
    · exact Nat.le_add_right _ _
    · exact Nat.le_trans (sumN_mem h) (Nat.le_add_left _ _)
theorem subs_tot : ∀ (n : Nat) (t x : T), isGm n t = true → x ∈ subsL n t → tot n x ≤ tot n t
  | 0, _, _, h, _ => by cases h
  | n + 1, t, x, h, hx => by
    rcases List.mem_cons.mp hx with rfl | hx
    · exact Nat.le_refl _
    · obtain ⟨z, hz, h2⟩ := List.mem_flatMap.mp hx
      have iz : isGm n z = true := by
        rcases List.mem_append.mp hz with hz | hz
        · exact gm_opt h hz
        · exact gm_opt h hz
      have ih := subs_tot n z x iz h2
      have ix := subs_gm n z x iz h2
      have e : tot (n + 1) x = tot n x := by
        have b1 := blk_tot n x ix
        have b2 := blk_tot (n + 1) x (gm_mono ix (Nat.le_succ n))
        omega
      rw [e, tot_step]
      rcases List.mem_append.mp hz with hz | hz
      · have := sumN_mem (f := tot n) hz; omega
      · have := sumN_mem (f := tot n) hz; omega
theorem depth_gm : ∀ (n : Nat) (t : T), isGm n t = true → t.depth ≤ 2 * n
  | 0, _, h => by cases h
  | n + 1, t, h => by
    obtain ⟨a, b, rfl⟩ := gm_shape h
    obtain ⟨oa, ob⟩ := gm_row h
    have ha : T.depths a ≤ 2 * n := T.depths_le fun x hx => depth_gm n x (oa x hx)
    have hb : T.depths b ≤ 2 * n := T.depths_le fun x hx => depth_gm n x (ob x hx)
    simp only [T.depth, T.depths]
    omega
end LM

set_option Elab.async false
set_option linter.all false
set_option maxRecDepth 100000
set_option maxHeartbeats 4000000
namespace LM
open PySem PySem.Spec PyProof.Rows L2 Evl
/-! ### families of games whose hashes differ -/
mutual
def hT0 : T → Int
  | .n ts => reduceHash (Builtin.Tuple.tupleHashOf (hTs0 ts))
def hTs0 : List T → List Int
  | [] => []
  | t :: ts => hT0 t :: hTs0 ts
end
mutual
theorem hT_eq (w : World) : ∀ t : T, (nk t).hash w = hT0 t
  | .n ts => by rw [nk, NestedKey.hash, hT0, hTs_eq w ts]
theorem hTs_eq (w : World) : ∀ ts : List T, NestedKey.hashes w (nks ts) = hTs0 ts
  | [] => by rw [nks, NestedKey.hashes, hTs0]
  | t :: ts => by rw [nks, NestedKey.hashes, hTs0, hT_eq w t, hTs_eq w ts]
end
mutual
theorem key_T : ∀ t : T, keyOf t.data = nk t
  | .n ts => by rw [T.data, keyOf, nk, keys_T ts]
theorem keys_T : ∀ ts : List T, keysOf (T.datas ts) = nks ts
  | [] => by rw [T.datas, keysOf, nks]
  | t :: ts => by rw [T.datas, keysOf, nks, key_T t, keys_T ts]
end
mutual
theorem nk_inj : ∀ (t u : T), nk t = nk u → t = u
  | .n ts, .n us, h => by
    rw [nk, nk] at h
    injection h with h
    rw [nks_inj ts us h]
theorem nks_inj : ∀ (ts us : List T), nks ts = nks us → ts = us
  | [], [], _ => rfl
  | [], _ :: _, h => by rw [nks, nks] at h; cases h
  | _ :: _, [], h => by rw [nks, nks] at h; cases h
  | t :: ts, u :: us, h => by
    rw [nks, nks] at h
    injection h with h1 h2
    rw [nk_inj t u h1, nks_inj ts us h2]
end
/-- no two alike, by their bits -/
def nd : Nat → List Nat → Bool
  | _, [] => true
  | _, [_] => true
  | 0, _ => false
  | f + 1, l => nd f ((l.filter fun x => x % 2 == 0).map (· / 2)) && nd f ((l.filter fun x => !(x % 2 == 0)).map (· / 2))
theorem nodup_split {α : Type} {p : α → Bool} : ∀ {l : List α}, (l.filter p).Nodup → (l.filter fun x => !p x).Nodup → l.Nodup
  | [], _, _ => List.nodup_nil
  | x :: l, h1, h2 => by
    cases c : p x with
    | true =>
      rw [List.filter_cons_of_pos c] at h1
      rw [List.filter_cons_of_neg (by simp [c])] at h2
      rw [List.nodup_cons] at h1 ⊢
      exact ⟨fun hm => h1.1 (List.mem_filter.mpr ⟨hm, c⟩), nodup_split h1.2 h2⟩
    | false =>
      rw [List.filter_cons_of_neg (by simp [c])] at h1
      rw [List.filter_cons_of_pos (by simp [c])] at h2
      rw [List.nodup_cons] at h2 ⊢
      exact ⟨fun hm => h2.1 (List.mem_filter.mpr ⟨hm, by simp [c]⟩), nodup_split h1 h2.2⟩
theorem nodup_map {α β : Type} {f : α → β} : ∀ {l : List α}, (l.map f).Nodup → l.Nodup
  | [], _ => List.nodup_nil
  | x :: l, h => by
    rw [List.map_cons, List.nodup_cons] at h
    rw [List.nodup_cons]
    exact ⟨fun hm => h.1 (List.mem_map.mpr ⟨x, hm, rfl⟩), nodup_map h.2⟩
theorem nd_ok : ∀ (f : Nat) (l : List Nat), nd f l = true → l.Nodup
  | _, [], _ => List.nodup_nil
  | _, [x], _ => by simp
  | 0, _ :: _ :: _, h => by simp [nd] at h
  | f + 1, x :: y :: l, h => by
    have h' : nd f (((x :: y :: l).filter fun x => x % 2 == 0).map (· / 2)) = true ∧ nd f (((x :: y :: l).filter fun x => !(x % 2 == 0)).map (· / 2)) = true := by
      simpa only [nd, Bool.and_eq_true] using h
    exact nodup_split (p := fun x => x % 2 == 0) (nodup_map (nd_ok f _ h'.1)) (nodup_map (nd_ok f _ h'.2))
theorem inj_on {α β : Type} {f : α → β} : ∀ {l : List α}, (l.map f).Nodup → ∀ {x y : α}, x ∈ l → y ∈ l → f x = f y → x = y
  | a :: l, h, x, y, hx, hy, e => by
    rw [List.map_cons, List.nodup_cons] at h
    rcases List.mem_cons.mp hx with h1 | h1
    · rcases List.mem_cons.mp hy with h2 | h2
      · rw [h1, h2]
      · exact absurd (List.mem_map.mpr ⟨y, h2, by rw [← e, h1]⟩) h.1
    · rcases List.mem_cons.mp hy with h2 | h2
      · exact absurd (List.mem_map.mpr ⟨x, h1, by rw [e, h2]⟩) h.1
      · exact inj_on h.2 h1 h2 e
def hN (i : Int) : Nat := (i + 9223372036854775808).toNat
def h2 (a b : Int) : Int := reduceHash (Builtin.Tuple.tupleHashOf [a, b])
def pairsOf {α : Type} (L : List α) : List (α × α) := L.flatMap fun a => L.map fun b => (a, b)
theorem mem_pairs {α : Type} {L : List α} {a b : α} (ha : a ∈ L) (hb : b ∈ L) : (a, b) ∈ pairsOf L := List.mem_flatMap.mpr ⟨a, ha, List.mem_map.mpr ⟨b, hb, rfl⟩⟩
theorem pairs_len {α : Type} (L : List α) : (pairsOf L).length = L.length * L.length := by
  unfold pairsOf
  rw [List.length_flatMap, List.map_congr_left (g := fun _ => L.length) (fun a _ => by rw [List.length_map])]
  rw [List.map_const', List.sum_replicate_nat]
/-- the hashes, at most ten bits more than needed -/
def hashOk (L : List T) : Bool := nd 70 ((L.map hT0).map hN) && nd 70 ((pairsOf (L.map hT0)).map fun p => hN (h2 p.1 p.2))
def shapeOk (L : List T) : Bool := L.all fun t => isGm 20 t && decide (t.depth ≤ 30) && decide ((opt t 0).length < 64) && decide ((opt t 1).length < 64)
def inL (L : List T) (t : T) : Bool := L.any fun u => decide (T.cmp t u = .eq)
def closeOk (L : List T) : Bool := L.all fun t => (opt t 0).all (inL L) && (opt t 1).all (inL L)
theorem inL_ok {L : List T} {t : T} (h : inL L t = true) : t ∈ L := by
  obtain ⟨u, hu, e⟩ := List.any_eq_true.mp h
  rw [T.eq_of_cmp t u (of_decide_eq_true e)]
  exact hu
theorem opt_or (t : T) (v : Int) : opt t v = opt t 0 ∨ opt t v = opt t 1 := by
  by_cases h : v = 0
  · subst h; exact .inl rfl
  · refine .inr ?_
    unfold opt
    split
    · rw [if_neg h, if_neg (by decide)]
    · rfl
theorem close_cl {L : List T} (h : closeOk L = true) : ∀ t, t ∈ L → ∀ v x, x ∈ opt t v → x ∈ L := fun t ht v x hx => by
  have h1 := List.all_eq_true.mp h t ht
  rw [Bool.and_eq_true] at h1
  rcases opt_or t v with e | e
  · rw [e] at hx; exact inL_ok (List.all_eq_true.mp h1.1 x hx)
  · rw [e] at hx; exact inL_ok (List.all_eq_true.mp h1.2 x hx)
theorem shape_of {L : List T} (h : shapeOk L = true) {t : T} (ht : t ∈ L) : isGm 20 t = true ∧ t.depth ≤ 30 ∧ ∀ v, (opt t v).length < 64 := by
  have h1 := List.all_eq_true.mp h t ht
  simp only [Bool.and_eq_true, decide_eq_true_eq] at h1
  refine ⟨h1.1.1.1, h1.1.1.2, fun v => ?_⟩
  rcases opt_or t v with e | e
  · rw [e]; exact h1.1.2
  · rw [e]; exact h1.2
theorem pair_key (w : World) (a b : T) : (keyOf (.tuple [a.data, b.data])).hash w = h2 (hT0 a) (hT0 b) := by
  rw [keyOf, keysOf, keysOf, keysOf, key_T, key_T, NestedKey.hash, NestedKey.hashes, NestedKey.hashes, NestedKey.hashes, hT_eq, hT_eq]
  rfl
theorem pair_inj {a b c d : T} (h : keyOf (.tuple [a.data, b.data]) = keyOf (.tuple [c.data, d.data])) : a = c ∧ b = d := by
  rw [keyOf, keysOf, keysOf, keysOf, keyOf, keysOf, keysOf, keysOf, key_T, key_T, key_T, key_T] at h
  injection h with h
  injection h with h1 h2
  injection h2 with h2 _
  exact ⟨nk_inj _ _ h1, nk_inj _ _ h2⟩
theorem e_pairs1 {α β γ : Type} (L : List α) (h : α → β) (f : β → β → γ) : ((pairsOf (L.map h)).map fun p => f p.1 p.2) = (pairsOf L).map fun p => f (h p.1) (h p.2) := by
  unfold pairsOf
  rw [List.flatMap_map, List.map_flatMap, List.map_flatMap]
  congr 1
  funext a
  rw [List.map_map, List.map_map, List.map_map]
  rfl
theorem e_pairs (L : List T) : ((pairsOf (L.map hT0)).map fun p => hN (h2 p.1 p.2)) = (pairsOf L).map fun p => hN (h2 (hT0 p.1) (hT0 p.2)) := e_pairs1 L hT0 fun a b => hN (h2 a b)
/-! ### the hash of pairs, in natural numbers -/
abbrev M64 : Nat := 18446744073709551616
def rotN (x : Nat) : Nat := (x * 2147483648) % M64 + x / 8589934592
def psiN (x : Nat) : Nat := (rotN x * 11400714785074694791) % M64
def stepN (s h : Nat) : Nat := psiN ((s + h * 14029467366897019727) % M64)
def finN (c acc : Nat) : Nat := if (acc + c) % M64 = 18446744073709551615 then 1546275796 else (acc + c) % M64
mutual
def hU : T → Nat
  | .n ts => finN (ts.length ^^^ 2870177450013471926) ((hUs ts).foldl stepN 2870177450012600261)
def hUs : List T → List Nat
  | [] => []
  | t :: ts => hU t :: hUs ts
end
def uI (i : Int) : Nat := (i % (18446744073709551616 : Int)).toNat
theorem tho_fold : ∀ (l : List Int) (acc : Nat), l.foldl (fun acc h => ((((acc + (h % ((2 ^ 64 : Nat) : Int)).toNat * 14029467366897019727) % 2 ^ 64) * 2 ^ 31) % 2 ^ 64 + ((acc + (h % ((2 ^ 64 : Nat) : Int)).toNat * 14029467366897019727) % 2 ^ 64) / 2 ^ 33) * 11400714785074694791 % 2 ^ 64) acc = (l.map uI).foldl stepN acc
  | [], _ => rfl
  | h :: l, acc => by
    rw [List.foldl_cons, List.map_cons, List.foldl_cons]
    exact tho_fold l (stepN acc (uI h))
def sgn (acc : Nat) : Int := if acc == 2 ^ 64 - 1 then 1546275796 else if acc < 2 ^ 63 then acc else (acc : Int) - ((2 ^ 64 : Nat) : Int)
theorem tho_eq (l : List Int) : Builtin.Tuple.tupleHashOf l = sgn (((l.map uI).foldl stepN 2870177450012600261 + (l.length ^^^ 2870177450013471926)) % 2 ^ 64) := by
  rw [← tho_fold]
  rfl
theorem sgn_ok {acc : Nat} (h : acc < M64) : reduceHash (sgn acc) = sgn acc ∧ uI (sgn acc) = if acc = 18446744073709551615 then 1546275796 else acc := by
  have h : acc < 18446744073709551616 := h
  have e1 : (2 : Nat) ^ 64 = 18446744073709551616 := by decide
  have e2 : (2 : Nat) ^ 63 = 9223372036854775808 := by decide
  have e3 : (2 : Int) ^ 63 = 9223372036854775808 := by decide
  unfold sgn
  rw [e1, e2]
  by_cases c : acc = 18446744073709551615
  · subst c
    constructor
    · decide +kernel
    · decide +kernel
  · rw [if_neg (show ¬ (acc == 18446744073709551616 - 1) = true by simp only [beq_iff_eq]; omega), if_neg c]
    by_cases d : acc < 9223372036854775808
    · rw [if_pos d]
      constructor
      · unfold reduceHash
        rw [e3]
        have h1 : (decide (-(9223372036854775808 : Int) ≤ (acc : Int)) && decide ((acc : Int) < 9223372036854775808)) = true := by
          rw [Bool.and_eq_true, decide_eq_true_eq, decide_eq_true_eq]; omega
        rw [if_pos h1, if_neg (by simp only [beq_iff_eq]; omega)]
      · unfold uI; omega
    · rw [if_neg d]
      constructor
      · unfold reduceHash
        rw [e3]
        have h1 : (decide (-(9223372036854775808 : Int) ≤ (acc : Int) - ((18446744073709551616 : Nat) : Int)) && decide ((acc : Int) - ((18446744073709551616 : Nat) : Int) < 9223372036854775808)) = true := by
          rw [Bool.and_eq_true, decide_eq_true_eq, decide_eq_true_eq]; omega
        rw [if_pos h1, if_neg (by simp only [beq_iff_eq]; omega)]
      · unfold uI; omega
theorem th_u (l : List Int) : uI (reduceHash (Builtin.Tuple.tupleHashOf l)) = finN (l.length ^^^ 2870177450013471926) ((l.map uI).foldl stepN 2870177450012600261) := by
  have e1 : (2 : Nat) ^ 64 = 18446744073709551616 := by decide
  rw [tho_eq, e1]
  have hs := sgn_ok (acc := ((l.map uI).foldl stepN 2870177450012600261 + (l.length ^^^ 2870177450013471926)) % 18446744073709551616) (Nat.mod_lt _ (by decide))
  rw [hs.1, hs.2]
  rfl
mutual
theorem u_T : ∀ t : T, uI (hT0 t) = hU t
  | .n ts => by
    rw [hT0, hU, th_u, u_Ts ts]
    congr 1
    congr 1
    exact u_len ts
theorem u_Ts : ∀ ts : List T, (hTs0 ts).map uI = hUs ts
  | [] => by rw [hTs0, hUs]; rfl
  | t :: ts => by rw [hTs0, hUs, List.map_cons, u_T t, u_Ts ts]
theorem u_len : ∀ ts : List T, (hTs0 ts).length = ts.length
  | [] => by rw [hTs0]; rfl
  | t :: ts => by rw [hTs0, List.length_cons, List.length_cons, u_len ts]
end
theorem rot_eq (x : Nat) : rotN x = (x % 8589934592) * 2147483648 + x / 8589934592 := by
  unfold rotN
  rw [show M64 = 8589934592 * 2147483648 from by decide, Nat.mul_mod_mul_right]
theorem rot_inj {x y : Nat} (hx : x < M64) (hy : y < M64) (h : rotN x = rotN y) : x = y := by
  rw [rot_eq, rot_eq] at h
  have hx : x < 18446744073709551616 := hx
  have hy : y < 18446744073709551616 := hy
  omega
theorem rot_lt {x : Nat} (hx : x < M64) : rotN x < M64 := by
  rw [rot_eq]
  have hx : x < 18446744073709551616 := hx
  show _ < 18446744073709551616
  omega
theorem psi_inj {x y : Nat} (hx : x < M64) (hy : y < M64) (h : psiN x = psiN y) : x = y := by
  refine rot_inj hx hy ?_
  have lx := rot_lt hx
  have ly := rot_lt hy
  unfold psiN at h
  have e : ∀ r, r < M64 → (r * 11400714785074694791 % M64) * 614540362697595703 % M64 = r := fun r hr => by
    rw [← Nat.mul_mod_mod, Nat.mod_mul_mod, Nat.mul_mod_mod, Nat.mul_assoc]
    rw [Nat.mul_mod, show 11400714785074694791 * 614540362697595703 % M64 = 1 by decide, Nat.mul_one, Nat.mod_mod]
    exact Nat.mod_eq_of_lt hr
  rw [← e _ lx, h, e _ ly]
/-- what a game is worth as the first of a pair, as the second -/
def al (t : T) : Nat := stepN 2870177450012600261 (hU t)
def be (t : T) : Nat := (hU t * 14029467366897019727) % M64
def gP (a b : T) : Nat := (al a + be b) % M64
def gX : Nat := 9148689060682678900
theorem al_lt (t : T) : al t < M64 := Nat.mod_lt _ (by decide)
theorem be_lt (t : T) : be t < M64 := Nat.mod_lt _ (by decide)
theorem gP_lt (a b : T) : gP a b < M64 := Nat.mod_lt _ (by decide)
theorem step_g (a b : T) : stepN (stepN 2870177450012600261 (hU a)) (hU b) = psiN (gP a b) := by
  have e : gP a b = (al a + hU b * 14029467366897019727) % M64 := by
    unfold gP be
    rw [Nat.add_mod_mod]
  rw [e]
  unfold al
  generalize stepN 2870177450012600261 (hU a) = s
  rfl
theorem h2_u (a b : T) : uI (h2 (hT0 a) (hT0 b)) = finN 2870177450013471924 (psiN (gP a b)) := by
  unfold h2
  rw [th_u]
  rw [List.map_cons, List.map_cons, List.map_nil, List.foldl_cons, List.foldl_cons, List.foldl_nil, u_T, u_T, step_g, List.length_cons, List.length_cons, List.length_nil]
  generalize psiN (gP a b) = x
  rw [show (0 + 1 + 1) ^^^ 2870177450013471926 = 2870177450013471924 by decide]
theorem psi_X : (psiN gX + 2870177450013471924) % M64 = 18446744073709551615 := by decide
/-- pairs of one hash have one g, or the odd one -/
theorem h2_eq {a b c d : T} (h : h2 (hT0 a) (hT0 b) = h2 (hT0 c) (hT0 d)) : gP a b = gP c d ∨ gP a b = gX ∨ gP c d = gX := by
  have e := congrArg uI h
  rw [h2_u, h2_u] at e
  have l1 := gP_lt a b
  have l2 := gP_lt c d
  have p1 : psiN (gP a b) < M64 := Nat.mod_lt _ (by decide)
  have p2 : psiN (gP c d) < M64 := Nat.mod_lt _ (by decide)
  have px : psiN gX < M64 := Nat.mod_lt _ (by decide)
  have back : ∀ {g : Nat}, g < M64 → (psiN g + 2870177450013471924) % M64 = 18446744073709551615 → g = gX := fun {g} hg hh => by
    refine psi_inj hg (by decide) ?_
    have k := psi_X
    have : psiN g < M64 := Nat.mod_lt _ (by decide)
    unfold M64 at *
    omega
  unfold finN at e
  by_cases c1 : (psiN (gP a b) + 2870177450013471924) % M64 = 18446744073709551615
  · exact .inr (.inl (back l1 c1))
  · by_cases c2 : (psiN (gP c d) + 2870177450013471924) % M64 = 18446744073709551615
    · exact .inr (.inr (back l2 c2))
    · rw [if_neg c1, if_neg c2] at e
      refine .inl (psi_inj l1 l2 ?_)
      unfold M64 at *
      omega
end LM

set_option Elab.async false
set_option linter.all false
set_option maxRecDepth 100000
set_option maxHeartbeats 4000000
namespace LM
open PySem PySem.Spec PyProof.Rows L2 Evl
/-! ### games of the first days -/
def pOne : T := T.gm [Z0] []
def mOne : T := T.gm [] [Z0]
def sTar : T := T.gm [Z0] [Z0]
def B1 : List T := T.set [Z0, mOne, pOne, sTar]
def subsT : List T → List (List T)
  | [] => [[]]
  | x :: l => subsT l ++ (subsT l).map (x :: ·)
def dayL : List T := (subsT B1).flatMap fun p => (subsT B1).map fun q => T.gm p q
def B2 : List T := T.set (dayL.map plainV)
theorem b2_of {t : T} (h : t ∈ dayL) : plainV t ∈ B2 := T.mem_set.mpr (List.mem_map.mpr ⟨t, h, rfl⟩)
theorem k_len : decide (dayL.length ≤ 256) = true := by decide +kernel
theorem k_shape : (dayL.all fun t => isGm 3 t && decide ((opt t 0).length ≤ 4) && decide ((opt t 1).length ≤ 4) && (opt t 0).all (inL B1) && (opt t 1).all (inL B1) && decide (blks (opt t 0) ≤ 60) && decide (blks (opt t 1) ≤ 60)) = true := by decide +kernel
theorem k_b1 : (B1.all fun t => inL B2 t && inL dayL t && (opt t 0).all (inL [Z0]) && (opt t 1).all (inL [Z0])) = true := by decide +kernel
theorem k_b2 : (B2.all fun t => inL dayL t) = true := by decide +kernel
theorem k_b2n : decide (B2.length ≤ 22) = true := by decide +kernel
theorem k_here : (dayL.all fun t => inL dayL (hereV t)) = true := by decide +kernel
structure DayS (t : T) : Prop where
  gm : isGm 3 t = true
  few : ∀ v, (opt t v).length ≤ 4
  kid : ∀ v x, x ∈ opt t v → x ∈ B1
  sum : ∀ v, blks (opt t v) ≤ 60
theorem day_s {t : T} (h : t ∈ dayL) : DayS t := by
  have k := List.all_eq_true.mp k_shape t h
  simp only [Bool.and_eq_true, decide_eq_true_eq] at k
  obtain ⟨⟨⟨⟨⟨⟨k1, k2⟩, k3⟩, k4⟩, k5⟩, k6⟩, k7⟩ := k
  refine ⟨k1, fun v => ?_, fun v x hx => ?_, fun v => ?_⟩
  · rcases opt_or t v with e | e
    · rw [e]; exact k2
    · rw [e]; exact k3
  · rcases opt_or t v with e | e
    · rw [e] at hx; exact inL_ok (List.all_eq_true.mp k4 x hx)
    · rw [e] at hx; exact inL_ok (List.all_eq_true.mp k5 x hx)
  · rcases opt_or t v with e | e
    · rw [e]; exact k6
    · rw [e]; exact k7
theorem b1_s {t : T} (h : t ∈ B1) : t ∈ B2 ∧ t ∈ dayL ∧ ∀ v x, x ∈ opt t v → x = Z0 := by
  have k := List.all_eq_true.mp k_b1 t h
  simp only [Bool.and_eq_true] at k
  obtain ⟨⟨⟨k1, k2⟩, k3⟩, k4⟩ := k
  refine ⟨inL_ok k1, inL_ok k2, fun v x hx => ?_⟩
  rcases opt_or t v with e | e
  · rw [e] at hx; exact List.mem_singleton.mp (inL_ok (List.all_eq_true.mp k3 x hx))
  · rw [e] at hx; exact List.mem_singleton.mp (inL_ok (List.all_eq_true.mp k4 x hx))
theorem b2_day {t : T} (h : t ∈ B2) : t ∈ dayL := inL_ok (List.all_eq_true.mp k_b2 t h)
theorem b2_opt {t x : T} (h : t ∈ B2) {v : Int} (hx : x ∈ opt t v) : x ∈ B2 := (b1_s ((day_s (b2_day h)).kid v x hx)).1
theorem z_b1 : Z0 ∈ B1 := T.mem_set.mpr List.mem_cons_self
theorem z_b2 : Z0 ∈ B2 := (b1_s z_b1).1
theorem z_opt {v : Int} {x : T} (h : x ∈ opt Z0 v) : False := by
  rcases opt_or Z0 v with e | e
  · rw [e] at h; cases h
  · rw [e] at h; cases h
theorem here_day {t : T} (h : t ∈ dayL) : hereV t ∈ dayL := inL_ok (List.all_eq_true.mp k_here t h)
/-! ### moves that lead back: how many -/
theorem blks_app : ∀ l m : List T, blks (l ++ m) = blks l + blks m
  | [], m => by rw [List.nil_append, blks, Nat.zero_add]
  | x :: l, m => by
    rw [List.cons_append, blks, blks, blks_app l m]; omega
theorem blks_mem {x : T} : ∀ {l : List T}, x ∈ l → blk x + 1 ≤ blks l
  | y :: l, h => by
    rw [blks]
    rcases List.mem_cons.mp h with rfl | h
    · omega
    · have := blks_mem h; omega
theorem blk_opt {n : Nat} {t : T} (h : isGm n t = true) (v : Int) : blks (opt t v) + 2 ≤ blk t := by
  obtain ⟨a, b, rfl⟩ := gm_shape h
  rw [blk, blks, blks, blks, blk, blk]
  rcases opt_or (.n [.n a, .n b]) v with e | e
  · rw [e]; show blks a + 2 ≤ _; omega
  · rw [e]; show blks b + 2 ≤ _; omega
theorem led_fin {g : T} {v : Int} : ∀ (f : Nat) (todo : List T), (∀ m ∈ todo, ∃ n, isGm n m = true) → blks todo < f → ∃ fs, ledL f g v todo = some fs ∧ 3 * fs.length ≤ blks todo
  | 0, _, _, h => by omega
  | f + 1, [], _, _ => ⟨[], rfl, by simp⟩
  | f + 1, m :: rest, hg, h => by
    obtain ⟨n, im⟩ := hg m List.mem_cons_self
    have hr : ∀ x ∈ rest, ∃ n, isGm n x = true := fun x hx => hg x (List.mem_cons_of_mem _ hx)
    rw [blks] at h
    have b0 := blk_opt im (1 - v)
    rw [blks]
    unfold ledL
    cases c : wayV g m v with
    | none =>
      obtain ⟨fs, e, l⟩ := led_fin f rest hr (by omega)
      dsimp only
      rw [e]
      refine ⟨m :: fs, rfl, ?_⟩
      rw [List.length_cons]
      omega
    | some a =>
      have ma := List.mem_of_find?_eq_some c
      have ia : ∃ k, isGm k a = true := by
        cases n with
        | zero => cases im
        | succ n => exact ⟨n, gm_opt im ma⟩
      obtain ⟨k, ia⟩ := ia
      have b1 := blk_opt ia v
      have b2 := blks_mem ma
      obtain ⟨fs, e, l⟩ := led_fin f (rest ++ opt a v) (fun x hx => (List.mem_append.mp hx).elim (hr x) fun hx => by
        cases k with
        | zero => cases ia
        | succ k => exact ⟨k, gm_opt ia hx⟩) (by rw [blks_app]; omega)
      rw [blks_app] at l
      exact ⟨fs, e, by omega⟩
/-! ### what a run asks -/
def inQ (a b : T) : Prop := (a ∈ B2 ∧ b ∈ B2) ∨ (a = Z0 ∧ b ∈ dayL) ∨ (a ∈ dayL ∧ b = Z0)
def dayX : List T := dayL.filter fun t => !inL B2 t
def Qv : List Nat := (B2.flatMap fun a => B2.map fun b => gP a b) ++ dayX.map (gP Z0) ++ dayX.map fun t => gP t Z0
def VQ : List Nat := gX :: Qv
theorem k_vq : nd 70 VQ = true := by decide +kernel
theorem k_al : nd 70 (B2.map al) = true := by decide +kernel
theorem k_be : nd 70 (B2.map be) = true := by decide +kernel
theorem x_day {t : T} (h : t ∈ dayL) : t ∈ B2 ∨ t ∈ dayX := by
  cases c : inL B2 t with
  | true => exact .inl (inL_ok c)
  | false => exact .inr (List.mem_filter.mpr ⟨h, by rw [c]; rfl⟩)
/-- the pairs of Q, as they stand in Qv -/
def Ql : List (T × T) := (B2.flatMap fun a => B2.map fun b => (a, b)) ++ dayX.map (fun t => (Z0, t)) ++ dayX.map fun t => (t, Z0)
theorem ql_map : Ql.map (fun p => gP p.1 p.2) = Qv := by
  unfold Ql Qv
  rw [List.map_append, List.map_append, List.map_flatMap, List.map_map, List.map_map]
  have e : ((B2.flatMap fun a => List.map (fun p : T × T => gP p.1 p.2) (B2.map fun b => (a, b)))) = B2.flatMap fun a => B2.map fun b => gP a b := by
    congr 1
  rw [e]
  rfl
theorem q_mem {a b : T} (h : inQ a b) : (a, b) ∈ Ql := by
  have two : ∀ {a b : T}, a ∈ B2 → b ∈ B2 → (a, b) ∈ Ql := fun ha hb => List.mem_append_left _ (List.mem_append_left _ (List.mem_flatMap.mpr ⟨_, ha, List.mem_map.mpr ⟨_, hb, rfl⟩⟩))
  rcases h with ⟨h1, h2⟩ | ⟨rfl, h⟩ | ⟨h, rfl⟩
  · exact two h1 h2
  · rcases x_day h with h | h
    · exact two z_b2 h
    · exact List.mem_append_left _ (List.mem_append_right _ (List.mem_map.mpr ⟨_, h, rfl⟩))
  · rcases x_day h with h | h
    · exact two h z_b2
    · exact List.mem_append_right _ (List.mem_map.mpr ⟨_, h, rfl⟩)
theorem q_val {a b : T} (h : inQ a b) : gP a b ∈ Qv := by
  rw [← ql_map]
  exact List.mem_map.mpr ⟨(a, b), q_mem h, rfl⟩
theorem q_odd {a b : T} (h : inQ a b) : gP a b ≠ gX := fun e => by
  have := nd_ok 70 VQ k_vq
  unfold VQ at this
  rw [List.nodup_cons] at this
  exact this.1 (e ▸ q_val h)
theorem q_uni {a b c d : T} (h : inQ a b) (k : inQ c d) (e : gP a b = gP c d) : a = c ∧ b = d := by
  have nd := nd_ok 70 VQ k_vq
  unfold VQ at nd
  rw [List.nodup_cons, ← ql_map] at nd
  have := inj_on nd.2 (q_mem h) (q_mem k) e
  injection this with e1 e2
  exact ⟨e1, e2⟩
end LM

set_option Elab.async false
set_option linter.all false
set_option maxRecDepth 100000
set_option maxHeartbeats 4000000
namespace LM
open PySem PySem.Spec PyProof.Rows L2 Evl
/-! ### a run: which pairs are asked -/
def PrD (D : List (T × T)) (a b : T) : Prop := inQ a b ∨ (a, b) ∈ D
structure HashD (D : List (T × T)) : Prop where
  out : ∀ p ∈ D, gP p.1 p.2 ∉ VQ
  uni : ∀ p ∈ D, ∀ q ∈ D, gP p.1 p.2 = gP q.1 q.2 → p = q
theorem pr_odd {D : List (T × T)} (H : HashD D) {a b : T} (h : PrD D a b) : gP a b ≠ gX := fun e => by
  rcases h with h | h
  · exact q_odd h e
  · exact H.out (a, b) h (by rw [e]; exact List.mem_cons_self)
theorem pr_uni {D : List (T × T)} (H : HashD D) {a b c d : T} (h : PrD D a b) (k : PrD D c d) (e : gP a b = gP c d) : a = c ∧ b = d := by
  rcases h with h | h <;> rcases k with k | k
  · exact q_uni h k e
  · have z : gP a b ∈ VQ := List.mem_cons_of_mem _ (q_val h)
    rw [e] at z
    exact absurd z (H.out (c, d) k)
  · have z : gP c d ∈ VQ := List.mem_cons_of_mem _ (q_val k)
    rw [← e] at z
    exact absurd z (H.out (a, b) h)
  · have := H.uni _ h _ k e
    injection this with e1 e2
    exact ⟨e1, e2⟩
def outB (l : List T) : List T := l.filter fun x => !inL B1 x
theorem out_mem {l : List T} {x : T} (h : x ∈ l) : x ∈ B1 ∨ x ∈ outB l := by
  cases c : inL B1 x with
  | true => exact .inl (inL_ok c)
  | false => exact .inr (List.mem_filter.mpr ⟨h, by rw [c]; rfl⟩)
theorem out_sub {l : List T} {x : T} (h : x ∈ outB l) : x ∈ l := (List.mem_filter.mp h).1
def out2 (l : List T) : List T := l.filter fun x => !inL B2 x
theorem out2_mem {l : List T} {x : T} (h : x ∈ l) : x ∈ B2 ∨ x ∈ out2 l := by
  cases c : inL B2 x with
  | true => exact .inl (inL_ok c)
  | false => exact .inr (List.mem_filter.mpr ⟨h, by rw [c]; rfl⟩)
theorem out2_sub {l : List T} {x : T} (h : x ∈ out2 l) : x ∈ l := (List.mem_filter.mp h).1
def exD (u : T) : List (T × T) :=
  ((out2 (opt u 0)).flatMap fun m => (outB (opt m 1)).flatMap fun a => (a, u) :: (out2 (opt u 1)).map fun g => (g, a)) ++
  ((out2 (opt u 1)).flatMap fun m => (outB (opt m 0)).flatMap fun a => (u, a) :: (out2 (opt u 0)).map fun g => (a, g))
def sdD (u : T) : List (T × T) := B1.map (fun x => (u, x)) ++ B1.map fun x => (x, u)
def DD (U3 U4 : List T) : List (T × T) := (U3 ++ U4).flatMap sdD ++ U4.flatMap exD
structure Shape (U3 U4 : List T) : Prop where
  g3 : ∀ u ∈ U3, isGm 4 u = true
  g4 : ∀ u ∈ U4, isGm 5 u = true
  f3 : ∀ u ∈ U3, ∀ v, (opt u v).length < 64
  f4 : ∀ u ∈ U4, ∀ v, (opt u v).length < 64
  o3 : ∀ u ∈ U3, ∀ v x, x ∈ opt u v → x ∈ B2
  o4 : ∀ u ∈ U4, ∀ v x, x ∈ opt u v → x ∈ B2 ∨ x ∈ U3
  b3 : ∀ u ∈ U3, ∀ v, blks (opt u v) ≤ 180
  b4 : ∀ u ∈ U4, ∀ v, blks (opt u v) ≤ 180
  n4 : ∀ u ∈ U4, ∀ v, ∀ x ∈ opt u v, ∀ y ∈ opt u v, x ∉ B1 → y ∉ B1 → x = y
  dl : (DD U3 U4).length ≤ 10000
section
variable {U3 U4 : List T}
theorem d_side {u x : T} (hu : u ∈ U3 ∨ u ∈ U4) (hx : x ∈ B1) : (u, x) ∈ DD U3 U4 ∧ (x, u) ∈ DD U3 U4 := by
  have hu' : u ∈ U3 ++ U4 := List.mem_append.mpr hu
  exact ⟨List.mem_append_left _ (List.mem_flatMap.mpr ⟨u, hu', List.mem_append_left _ (List.mem_map.mpr ⟨x, hx, rfl⟩)⟩), List.mem_append_left _ (List.mem_flatMap.mpr ⟨u, hu', List.mem_append_right _ (List.mem_map.mpr ⟨x, hx, rfl⟩)⟩)⟩
theorem d_ex {u : T} {p : T × T} (hu : u ∈ U4) (hp : p ∈ exD u) : p ∈ DD U3 U4 := List.mem_append_right _ (List.mem_flatMap.mpr ⟨u, hu, hp⟩)
theorem ex_au {u m a : T} (hm : m ∈ out2 (opt u 0)) (ha : a ∈ outB (opt m 1)) : (a, u) ∈ exD u := List.mem_append_left _ (List.mem_flatMap.mpr ⟨m, hm, List.mem_flatMap.mpr ⟨a, ha, List.mem_cons_self⟩⟩)
theorem ex_ga {u m a g : T} (hm : m ∈ out2 (opt u 0)) (ha : a ∈ outB (opt m 1)) (hg : g ∈ out2 (opt u 1)) : (g, a) ∈ exD u := List.mem_append_left _ (List.mem_flatMap.mpr ⟨m, hm, List.mem_flatMap.mpr ⟨a, ha, List.mem_cons_of_mem _ (List.mem_map.mpr ⟨g, hg, rfl⟩)⟩⟩)
theorem ex_ua {u m a : T} (hm : m ∈ out2 (opt u 1)) (ha : a ∈ outB (opt m 0)) : (u, a) ∈ exD u := List.mem_append_right _ (List.mem_flatMap.mpr ⟨m, hm, List.mem_flatMap.mpr ⟨a, ha, List.mem_cons_self⟩⟩)
theorem ex_ag {u m a g : T} (hm : m ∈ out2 (opt u 1)) (ha : a ∈ outB (opt m 0)) (hg : g ∈ out2 (opt u 0)) : (a, g) ∈ exD u := List.mem_append_right _ (List.mem_flatMap.mpr ⟨m, hm, List.mem_flatMap.mpr ⟨a, ha, List.mem_cons_of_mem _ (List.mem_map.mpr ⟨g, hg, rfl⟩)⟩⟩)
/-- what stands in exD -/
theorem ex_cases {u : T} {p : T × T} (h : p ∈ exD u) : (∃ m a, m ∈ out2 (opt u 0) ∧ a ∈ outB (opt m 1) ∧ (p = (a, u) ∨ ∃ g ∈ out2 (opt u 1), p = (g, a))) ∨ ∃ m a, m ∈ out2 (opt u 1) ∧ a ∈ outB (opt m 0) ∧ (p = (u, a) ∨ ∃ g ∈ out2 (opt u 0), p = (a, g)) := by
  rcases List.mem_append.mp h with h | h
  · obtain ⟨m, hm, h⟩ := List.mem_flatMap.mp h
    obtain ⟨a, ha, h⟩ := List.mem_flatMap.mp h
    refine .inl ⟨m, a, hm, ha, ?_⟩
    rcases List.mem_cons.mp h with h | h
    · exact .inl h
    · obtain ⟨g, hg, e⟩ := List.mem_map.mp h
      exact .inr ⟨g, hg, e.symm⟩
  · obtain ⟨m, hm, h⟩ := List.mem_flatMap.mp h
    obtain ⟨a, ha, h⟩ := List.mem_flatMap.mp h
    refine .inr ⟨m, a, hm, ha, ?_⟩
    rcases List.mem_cons.mp h with h | h
    · exact .inl h
    · obtain ⟨g, hg, e⟩ := List.mem_map.mp h
      exact .inr ⟨g, hg, e.symm⟩
theorem b1_b2 {t : T} (h : t ∈ B1) : t ∈ B2 := (b1_s h).1
theorem qq {a b : T} (ha : a ∈ B2) (hb : b ∈ B2) {D : List (T × T)} : PrD D a b := .inl (.inl ⟨ha, hb⟩)
theorem b2_kid {t x : T} (h : t ∈ B2) {v : Int} (hx : x ∈ opt t v) : x ∈ B1 := (day_s (b2_day h)).kid v x hx
theorem b1_kid {t x : T} (h : t ∈ B1) {v : Int} (hx : x ∈ opt t v) : x ∈ B1 := by rw [(b1_s h).2.2 v x hx]; exact z_b1
/-- the moves of a game of U4 -/
theorem u4_opt (S : Shape U3 U4) {u x : T} (hu : u ∈ U4) {v : Int} (hx : x ∈ opt u v) : x ∈ B2 ∨ (x ∈ U3 ∧ x ∈ out2 (opt u v)) := by
  rcases out2_mem hx with h | h
  · exact .inl h
  · rcases S.o4 u hu v x hx with k | k
    · exact .inl k
    · exact .inr ⟨k, h⟩
theorem in_inL {L : List T} {t : T} (h : t ∈ L) : inL L t = true := List.any_eq_true.mpr ⟨t, h, by rw [T.cmp_self]; rfl⟩
theorem dd_closed (S : Shape U3 U4) {a b : T} (h : PrD (DD U3 U4) a b) : (∀ g ∈ opt a 0, PrD (DD U3 U4) b g) ∧ ∀ g ∈ opt b 1, PrD (DD U3 U4) g a := by
  rcases h with h | h
  · rcases h with ⟨h1, h2⟩ | ⟨rfl, h⟩ | ⟨h, rfl⟩
    · exact ⟨fun g hg => qq h2 (b2_opt h1 hg), fun g hg => qq (b2_opt h2 hg) h1⟩
    · exact ⟨fun g hg => (z_opt hg).elim, fun g hg => qq (b1_b2 ((day_s h).kid 1 g hg)) z_b2⟩
    · exact ⟨fun g hg => qq z_b2 (b1_b2 ((day_s h).kid 0 g hg)), fun g hg => (z_opt hg).elim⟩
  · rcases List.mem_append.mp h with h | h
    · obtain ⟨u, hu, h⟩ := List.mem_flatMap.mp h
      have hu' := List.mem_append.mp hu
      have kid : ∀ (v : Int) (g x : T), x ∈ B1 → g ∈ opt u v → PrD (DD U3 U4) x g ∧ PrD (DD U3 U4) g x := fun v g x hx hg => by
        have b2 : g ∈ B2 → PrD (DD U3 U4) x g ∧ PrD (DD U3 U4) g x := fun h => ⟨qq (b1_b2 hx) h, qq h (b1_b2 hx)⟩
        rcases hu' with hu | hu
        · exact b2 (S.o3 u hu v g hg)
        · rcases S.o4 u hu v g hg with k | k
          · exact b2 k
          · have := d_side (U4 := U4) (.inl k) hx
            exact ⟨.inr this.2, .inr this.1⟩
      rcases List.mem_append.mp h with h | h
      · obtain ⟨x, hx, e⟩ := List.mem_map.mp h
        injection e with e1 e2
        subst e1
        subst e2
        exact ⟨fun g hg => (kid 0 g x hx hg).1, fun g hg => .inr (d_side hu' (b1_kid hx hg)).2⟩
      · obtain ⟨x, hx, e⟩ := List.mem_map.mp h
        injection e with e1 e2
        subst e1
        subst e2
        exact ⟨fun g hg => .inr (d_side hu' (b1_kid hx hg)).1, fun g hg => (kid 1 g x hx hg).2⟩
    · obtain ⟨u, hu, h⟩ := List.mem_flatMap.mp h
      have mem3 : ∀ {v : Int} {m : T}, m ∈ out2 (opt u v) → m ∈ U3 := fun {v m} hm => by
        rcases S.o4 u hu v m (out2_sub hm) with k | k
        · have := (List.mem_filter.mp hm).2
          rw [in_inL k] at this
          cases this
        · exact k
      rcases ex_cases h with ⟨m, x, hm, hx, h | ⟨g, hg, h⟩⟩ | ⟨m, x, hm, hx, h | ⟨g, hg, h⟩⟩
      · injection h with e1 e2
        subst e1
        subst e2
        have xb : a ∈ B2 := S.o3 m (mem3 hm) 1 a (out_sub hx)
        refine ⟨fun g hg => .inr (d_side (.inr hu) (b2_kid xb hg)).1, fun g hg => ?_⟩
        rcases u4_opt S hu hg with k | ⟨_, k⟩
        · exact qq k xb
        · exact .inr (d_ex hu (ex_ga hm hx k))
      · injection h with e1 e2
        subst e1
        subst e2
        have xb : b ∈ B2 := S.o3 m (mem3 hm) 1 b (out_sub hx)
        exact ⟨fun z hz => qq xb (S.o3 a (mem3 hg) 0 z hz), fun z hz => .inr (d_side (.inl (mem3 hg)) (b2_kid xb hz)).2⟩
      · injection h with e1 e2
        subst e1
        subst e2
        have xb : b ∈ B2 := S.o3 m (mem3 hm) 0 b (out_sub hx)
        refine ⟨fun g hg => ?_, fun g hg => .inr (d_side (.inr hu) (b2_kid xb hg)).2⟩
        rcases u4_opt S hu hg with k | ⟨_, k⟩
        · exact qq xb k
        · exact .inr (d_ex hu (ex_ag hm hx k))
      · injection h with e1 e2
        subst e1
        subst e2
        have xb : a ∈ B2 := S.o3 m (mem3 hm) 0 a (out_sub hx)
        exact ⟨fun z hz => .inr (d_side (.inl (mem3 hg)) (b2_kid xb hz)).1, fun z hz => qq (S.o3 b (mem3 hg) 1 z hz) xb⟩
def GmD (U3 U4 : List T) (t : T) : Prop := t ∈ dayL ∨ t ∈ U3 ∨ t ∈ U4
theorem d_gm (S : Shape U3 U4) {a b : T} (h : PrD (DD U3 U4) a b) : GmD U3 U4 a ∧ GmD U3 U4 b := by
  rcases h with h | h
  · rcases h with ⟨h1, h2⟩ | ⟨rfl, h⟩ | ⟨h, rfl⟩
    · exact ⟨.inl (b2_day h1), .inl (b2_day h2)⟩
    · exact ⟨.inl (b1_s z_b1).2.1, .inl h⟩
    · exact ⟨.inl h, .inl (b1_s z_b1).2.1⟩
  · rcases List.mem_append.mp h with h | h
    · obtain ⟨u, hu, h⟩ := List.mem_flatMap.mp h
      have hu' : GmD U3 U4 u := .inr (List.mem_append.mp hu)
      rcases List.mem_append.mp h with h | h
      · obtain ⟨x, hx, e⟩ := List.mem_map.mp h
        injection e with e1 e2
        subst e1
        subst e2
        exact ⟨hu', .inl (b1_s hx).2.1⟩
      · obtain ⟨x, hx, e⟩ := List.mem_map.mp h
        injection e with e1 e2
        subst e1
        subst e2
        exact ⟨.inl (b1_s hx).2.1, hu'⟩
    · obtain ⟨u, hu, h⟩ := List.mem_flatMap.mp h
      have hu' : GmD U3 U4 u := .inr (.inr hu)
      have mem3 : ∀ {v : Int} {m : T}, m ∈ out2 (opt u v) → GmD U3 U4 m ∧ ∀ w x, x ∈ opt m w → GmD U3 U4 x := fun {v m} hm => by
        rcases S.o4 u hu v m (out2_sub hm) with k | k
        · exact ⟨.inl (b2_day k), fun w x hx => .inl (b1_s (b2_kid k hx)).2.1⟩
        · exact ⟨.inr (.inl k), fun w x hx => .inl (b2_day (S.o3 m k w x hx))⟩
      rcases ex_cases h with ⟨m, x, hm, hx, h | ⟨g, hg, h⟩⟩ | ⟨m, x, hm, hx, h | ⟨g, hg, h⟩⟩
      · injection h with e1 e2
        rw [e1, e2]
        exact ⟨(mem3 hm).2 1 x (out_sub hx), hu'⟩
      · injection h with e1 e2
        rw [e1, e2]
        exact ⟨(mem3 hg).1, (mem3 hm).2 1 x (out_sub hx)⟩
      · injection h with e1 e2
        rw [e1, e2]
        exact ⟨hu', (mem3 hm).2 0 x (out_sub hx)⟩
      · injection h with e1 e2
        rw [e1, e2]
        exact ⟨(mem3 hm).2 0 x (out_sub hx), (mem3 hg).1⟩
theorem gmD_bd (S : Shape U3 U4) {t : T} (h : GmD U3 U4 t) : isGm 5 t = true := by
  rcases h with h | h | h
  · exact gm_mono (day_s h).gm (by decide)
  · exact gm_mono (S.g3 t h) (by decide)
  · exact S.g4 t h
theorem pair_fam {w : World} {D : List (T × T)} (H : HashD D) (dl : D.length ≤ 10000) (bd : ∀ a b, PrD D a b → isGm 5 a = true ∧ isGm 5 b = true) : FamOk w (PairF (PrD D)) := by
  refine ⟨fun d h => ?_, .inr ⟨fun d h => ?_, fun d e' h k eh => ?_⟩, fun d h => ?_, fun d e' h k ek => ?_, (Ql ++ D).map fun p => keyOf (.tuple [p.1.data, p.2.data]), ?_, fun d h => ?_⟩
  · obtain ⟨a, b, _, rfl⟩ := h
    simp only [imm, imms, data_im, Bool.and_self]
  · obtain ⟨a, b, pab, rfl⟩ := h
    obtain ⟨ia, ib⟩ := bd a b pab
    have h1 := depth_gm 5 a ia
    have h2 := depth_gm 5 b ib
    rw [keyOf, keysOf, keysOf, keysOf, key_T, key_T]
    simp only [NestedKey.depth, NestedKey.depthAll, nk_depth]
    omega
  · obtain ⟨a, b, pab, rfl⟩ := h
    obtain ⟨c, d, pcd, rfl⟩ := k
    rw [pair_key, pair_key] at eh
    rcases h2_eq eh with e | e | e
    · obtain ⟨e1, e2⟩ := pr_uni H pab pcd e
      rw [e1, e2]
    · exact absurd e (pr_odd H pab)
    · exact absurd e (pr_odd H pcd)
  · obtain ⟨a, b, _, rfl⟩ := h
    exact ⟨_, rfl⟩
  · obtain ⟨a, b, _, rfl⟩ := h
    obtain ⟨c, d, _, rfl⟩ := k
    obtain ⟨e1, e2⟩ := pair_inj ek
    rw [e1, e2]
  · have l1 := of_decide_eq_true k_len
    have l2 := of_decide_eq_true k_b2n
    have l3 : dayX.length ≤ 256 := Nat.le_trans (List.length_filter_le _ _) l1
    have l4 : (B2.flatMap fun a => B2.map fun b => (a, b)).length = B2.length * B2.length := pairs_len B2
    have l5 : B2.length * B2.length ≤ 22 * 22 := Nat.mul_le_mul l2 l2
    unfold Ql
    rw [List.length_map, List.length_append, List.length_append, List.length_append, List.length_map, List.length_map, l4, sizeLine_eq]
    omega
  · obtain ⟨a, b, pab, rfl⟩ := h
    refine List.mem_map.mpr ⟨(a, b), ?_, rfl⟩
    rcases pab with h | h
    · exact List.mem_append_left _ (q_mem h)
    · exact List.mem_append_right _ h
theorem gm_okD {w : World} (S : Shape U3 U4) (H : HashD (DD U3 U4)) : GmOk w (GmD U3 U4) (PrD (DD U3 U4)) := by
  refine ⟨pair_fam H S.dl fun a b h => ⟨gmD_bd S (d_gm S h).1, gmD_bd S (d_gm S h).2⟩, fun a b h => d_gm S h, fun a b h => (dd_closed S h).1, fun a b h => (dd_closed S h).2, fun t ht v x hx => ?_, fun t ht => gm_mono (gmD_bd S ht) (by decide), fun t ht v => ?_⟩
  · rcases ht with h | h | h
    · exact .inl (b1_s ((day_s h).kid v x hx)).2.1
    · exact .inl (b2_day (S.o3 t h v x hx))
    · rcases S.o4 t h v x hx with k | k
      · exact .inl (b2_day k)
      · exact .inr (.inl k)
  · rcases ht with h | h | h
    · have := (day_s h).few v; omega
    · exact S.f3 t h v
    · exact S.f4 t h v
/-- for who it is asked -/
theorem pb_side {D : List (T × T)} {a g : T} (h1 : PrD D a g) (h2 : PrD D g a) (v : Int) : Pb (PrD D) a g v := by
  unfold Pb
  split
  · exact h1
  · exact h2
/-- the moves met while those of g that lead back are put away -/
def MdD (U3 : List T) (g : T) (v : Int) (m : T) : Prop := m ∈ B1 ∨ (m ∈ opt g v ∧ (m ∈ B2 ∨ m ∈ U3))
theorem led_askD (S : Shape U3 U4) {g : T} (hg : GmD U3 U4 g) {v : Int} (hv : v = 0 ∨ v = 1) : (∀ m, m ∈ opt g v → MdD U3 g v m) ∧ ∀ m, MdD U3 g v m → GmD U3 U4 m ∧ ∀ a, a ∈ opt m (1 - v) → Pb (PrD (DD U3 U4)) a g v ∧ ∀ x, x ∈ opt a v → MdD U3 g v x := by
  refine ⟨fun m hm => .inr ⟨hm, ?_⟩, fun m hm => ?_⟩
  · rcases hg with h | h | h
    · exact .inl (b1_b2 ((day_s h).kid v m hm))
    · exact .inl (S.o3 g h v m hm)
    · exact S.o4 g h v m hm
  · have zz : Pb (PrD (DD U3 U4)) Z0 g v := by
      rcases hg with h | h | h
      · exact pb_side (.inl (.inr (.inl ⟨rfl, h⟩))) (.inl (.inr (.inr ⟨h, rfl⟩))) v
      · exact pb_side (.inr (d_side (.inl h) z_b1).2) (.inr (d_side (.inl h) z_b1).1) v
      · exact pb_side (.inr (d_side (.inr h) z_b1).2) (.inr (d_side (.inr h) z_b1).1) v
    have ofB1 : m ∈ B1 → GmD U3 U4 m ∧ ∀ a, a ∈ opt m (1 - v) → Pb (PrD (DD U3 U4)) a g v ∧ ∀ x, x ∈ opt a v → MdD U3 g v x := fun h => by
      refine ⟨.inl (b1_s h).2.1, fun a ha => ?_⟩
      have e := (b1_s h).2.2 (1 - v) a ha
      subst e
      exact ⟨zz, fun x hx => (z_opt hx).elim⟩
    rcases hm with h | ⟨hm, h | h⟩
    · exact ofB1 h
    · rcases hg with k | k | k
      · exact ofB1 ((day_s k).kid v m hm)
      · refine ⟨.inl (b2_day h), fun a ha => ?_⟩
        have ab := b2_kid h ha
        exact ⟨pb_side (.inr (d_side (.inl k) ab).2) (.inr (d_side (.inl k) ab).1) v, fun x hx => .inl (b1_kid ab hx)⟩
      · refine ⟨.inl (b2_day h), fun a ha => ?_⟩
        have ab := b2_kid h ha
        exact ⟨pb_side (.inr (d_side (.inr k) ab).2) (.inr (d_side (.inr k) ab).1) v, fun x hx => .inl (b1_kid ab hx)⟩
    · rcases hg with k | k | k
      · exact ofB1 ((day_s k).kid v m hm)
      · have mb := S.o3 g k v m hm
        refine ⟨.inl (b2_day mb), fun a ha => ?_⟩
        have ab := b2_kid mb ha
        exact ⟨pb_side (.inr (d_side (.inl k) ab).2) (.inr (d_side (.inl k) ab).1) v, fun x hx => .inl (b1_kid ab hx)⟩
      · rcases out2_mem hm with q | q
        · refine ⟨.inl (b2_day q), fun a ha => ?_⟩
          have ab := b2_kid q ha
          exact ⟨pb_side (.inr (d_side (.inr k) ab).2) (.inr (d_side (.inr k) ab).1) v, fun x hx => .inl (b1_kid ab hx)⟩
        · refine ⟨.inr (.inl h), fun a ha => ?_⟩
          have ab := S.o3 m h (1 - v) a ha
          refine ⟨?_, fun x hx => .inl (b2_kid ab hx)⟩
          rcases out_mem ha with z | z
          · exact pb_side (.inr (d_side (.inr k) z).2) (.inr (d_side (.inr k) z).1) v
          · rcases hv with rfl | rfl
            · exact .inr (d_ex k (ex_au q z))
            · exact .inr (d_ex k (ex_ua q z))
theorem nodup_pairs {R : T → T → Prop} : ∀ {l : List T}, l.Nodup → (∀ x ∈ l, ∀ y ∈ l, x ≠ y → R x y) → l.Pairwise R
  | [], _, _ => List.Pairwise.nil
  | x :: l, nd, h => by
    rw [List.nodup_cons] at nd
    rw [List.pairwise_cons]
    exact ⟨fun y hy => h x List.mem_cons_self y (List.mem_cons_of_mem _ hy) fun e => nd.1 (e ▸ hy), nodup_pairs nd.2 fun a ha b hb => h a (List.mem_cons_of_mem _ ha) b (List.mem_cons_of_mem _ hb)⟩
theorem led_sumD (S : Shape U3 U4) {g : T} (hg : GmD U3 U4 g) (v : Int) : blks (opt g v) ≤ 180 := by
  rcases hg with h | h | h
  · have := (day_s h).sum v; omega
  · exact S.b3 g h v
  · exact S.b4 g h v
theorem kid_gm {g x : T} {v : Int} (h : isGm 5 g = true) (hx : x ∈ opt g v) : isGm 4 x = true := gm_opt h hx
theorem gm_full {n : Nat} {t : T} (h : isGm n t = true) : full t = true := by
  obtain ⟨a, b, rfl⟩ := gm_shape h
  rfl
theorem set_okD {w : World} {l : List T} (h : ∀ x ∈ l, isGm 4 x = true) (hl : l.length < 64) : SetOk w l := by
  have d : T.depths l ≤ 8 := T.depths_le fun x hx => depth_gm 4 x (h x hx)
  exact ⟨fun t ht => gm_full (h t ht), Nat.le_trans d (by decide), .inl d, hl⟩
/-- a run -/
structure RunOk (w : World) (Gp : T → Prop) (U3 U4 : List T) : Prop where
  cl : ∀ t, Gp t → ∀ v x, x ∈ opt t v → Gp x
  bd : ∀ t, Gp t → isGm 5 t = true
  few : ∀ t, Gp t → ∀ v, (opt t v).length < 64
  nar : ∀ t, Gp t → ∀ v, (opt t v).length ≤ 30
  fam : FamOk w (GameF Gp)
  here : ∀ t, Gp t → GmD U3 U4 (hereV t)
  kid : ∀ t, Gp t → ∀ v x, x ∈ opt t v → isGm 4 (plainV x) = true
  shape : Shape U3 U4
  hash : HashD (DD U3 U4)
theorem led_gmD (S : Shape U3 U4) {g : T} (hg : GmD U3 U4 g) {v : Int} {fs : List T} (h : ledL 200 g v (opt g v) = some fs) : ∀ x ∈ fs, isGm 4 x = true := by
  refine led_all (p := fun m => isGm 4 m = true) (fun m a pm ma _ y hy => ?_) h fun m hm => kid_gm (gmD_bd S hg) hm
  exact gm_mono (gm_opt (f := 2) (gm_opt (f := 3) pm ma) hy) (by decide)
theorem plOk_of {w : World} {Gp : T → Prop} (R : RunOk w Gp U3 U4) : PlOk w (GmD U3 U4) (PrD (DD U3 U4)) Gp := by
  have S := R.shape
  have fin : ∀ t, Gp t → ∀ v, ∃ fs, ledL 200 (hereV t) v (opt (hereV t) v) = some fs ∧ 3 * fs.length ≤ blks (opt (hereV t) v) := fun t gt v => by
    have hg := R.here t gt
    have := led_sumD S hg v
    exact led_fin 200 _ (fun m hm => ⟨4, kid_gm (gmD_bd S hg) hm⟩) (by omega)
  have len : ∀ t, Gp t → ∀ v fs, 3 * fs.length ≤ blks (opt (hereV t) v) → (fs : List T).length < 64 := fun t gt v fs h => by
    have := led_sumD S (R.here t gt) v
    omega
  refine ⟨gm_okD S R.hash, R.fam, R.cl, fun t gt => gm_mono (R.bd t gt) (by decide), R.few, R.here, fun t gt v hv => ?_, fun t gt v hv => ?_, fun t gt v hv => ⟨MdD U3 (hereV t) v, led_askD S (R.here t gt) hv⟩, fun t gt v hv => ?_, fun t gt v hv => ?_⟩
  · refine set_okD (fun x hx => ?_) (by rw [List.length_map]; exact R.few t gt v)
    obtain ⟨y, hy, rfl⟩ := List.mem_map.mp hx
    exact R.kid t gt v y hy
  · obtain ⟨fs, h1, h2⟩ := fin t gt v
    exact ⟨fs, h1, set_okD (led_gmD S (R.here t gt) h1) (len t gt v fs h2)⟩
  · obtain ⟨fs, h1, h2⟩ := fin t gt v
    have hg := R.here t gt
    have A := led_askD S hg hv
    have el : ledV (hereV t) v = T.set fs := by unfold ledV; rw [h1]; rfl
    have all : ∀ x ∈ ledV (hereV t) v, MdD U3 (hereV t) v x := fun x hx => by
      rw [el] at hx
      exact led_all (p := MdD U3 (hereV t) v) (fun m a pm ma _ y hy => ((A.2 m pm).2 a ma).2 y hy) h1 A.1 x (T.mem_set.mp hx)
    refine nodup_pairs (by rw [el]; exact (T.asc_set _).nodup) fun x hx y hy ne => ?_
    have both : ∀ {a b : T}, a ∈ B2 → b ∈ B2 → Pb (PrD (DD U3 U4)) a b v ∧ Pb (PrD (DD U3 U4)) b a v := fun ha hb => ⟨pb_side (qq ha hb) (qq hb ha) v, pb_side (qq hb ha) (qq ha hb) v⟩
    have side : ∀ {a u : T}, a ∈ B1 → u ∈ U3 → Pb (PrD (DD U3 U4)) a u v ∧ Pb (PrD (DD U3 U4)) u a v := fun ha hu => by
      have := d_side (U4 := U4) (.inl hu) ha
      exact ⟨pb_side (.inr this.2) (.inr this.1) v, pb_side (.inr this.1) (.inr this.2) v⟩
    have mem : ∀ z, MdD U3 (hereV t) v z → z ∈ B1 ∨ (z ∉ B1 ∧ z ∈ opt (hereV t) v ∧ (z ∈ B2 ∨ (z ∈ U3 ∧ hereV t ∈ U4))) := fun z hz => by
      by_cases b : z ∈ B1
      · exact .inl b
      · rcases hz with h | ⟨hz, h⟩
        · exact absurd h b
        · refine .inr ⟨b, hz, ?_⟩
          rcases hg with q | q | q
          · exact .inl (b1_b2 ((day_s q).kid v z hz))
          · exact .inl (S.o3 _ q v z hz)
          · exact (S.o4 _ q v z hz).imp id fun k => ⟨k, q⟩
    rcases mem x (all x hx) with h | ⟨xb, h, hk⟩ <;> rcases mem y (all y hy) with k | ⟨yb, k, kk⟩
    · exact both (b1_b2 h) (b1_b2 k)
    · rcases kk with kk | ⟨kk, _⟩
      · exact both (b1_b2 h) kk
      · exact side h kk
    · rcases hk with hk | ⟨hk, _⟩
      · exact both hk (b1_b2 k)
      · exact (side k hk).symm
    · rcases hk with hk | ⟨hk, h4⟩
      · rcases kk with kk | ⟨kk, k4⟩
        · exact both hk kk
        · exact absurd (S.n4 _ k4 v x h y k xb yb) ne
      · exact absurd (S.n4 _ h4 v x h y k xb yb) ne
  · obtain ⟨fs, h1, h2⟩ := fin t gt v
    have el : ledV (hereV t) v = T.set fs := by unfold ledV; rw [h1]; rfl
    have sub : ∀ x ∈ bestV (ledV (hereV t) v) v, x ∈ ledV (hereV t) v := fun x hx => (best_sub _ [] hx).elim id fun h => (by cases h)
    refine set_okD (fun x hx => ?_) ?_
    · have := sub x hx
      rw [el] at this
      exact led_gmD S (R.here t gt) h1 x (T.mem_set.mp this)
    · rw [bestV_eq]
      have l1 := bestS_len v (ledV (hereV t) v) (ledV (hereV t) v).length
      have l2 : (ledV (hereV t) v).length ≤ fs.length := by rw [el]; exact T.set_len fs
      have := len t gt v fs h2
      omega
end
end LM

set_option Elab.async false
set_option linter.all false
set_option maxRecDepth 100000
set_option maxHeartbeats 4000000
namespace LM
open PySem PySem.Spec PyProof.Rows L2 Evl
/-! ### quick tables for the kernel -/
inductive Tr where
  | l (v : Nat)
  | n (l : Tr) (c : Nat) (r : Tr)
noncomputable def memT (t : Tr) : Nat → Bool := Tr.rec (motive := fun _ => Nat → Bool) (fun v x => Nat.beq x v) (fun _ c _ il ir x => Bool.rec (ir x) (il x) (Nat.ble x c)) t
noncomputable def fz (x : Nat) (f : Nat → Bool) : Bool := Nat.rec (motive := fun _ => Bool) (f (nat_lit 0)) (fun n _ => f (Nat.succ n)) x
theorem fz_eq (x : Nat) (f : Nat → Bool) : fz x f = f x := by cases x <;> rfl
noncomputable def allN (p : Nat → Bool) (l : List Nat) : Bool := List.rec (motive := fun _ => Bool) true (fun x _ ih => Bool.rec false ih (p x)) l
theorem allN_ok {p : Nat → Bool} : ∀ {l : List Nat}, allN p l = true → ∀ x ∈ l, p x = true
  | [], _, _, h => by cases h
  | y :: l, h, x, hx => by
    have h' : (Bool.rec false (allN p l) (p y) : Bool) = true := h
    cases c : p y with
    | false => rw [c] at h'; cases h'
    | true =>
      rw [c] at h'
      rcases List.mem_cons.mp hx with rfl | hx
      · exact c
      · exact allN_ok h' x hx
noncomputable def notB (b : Bool) : Bool := Bool.rec true false b
theorem notB_eq (b : Bool) : notB b = !b := by cases b <;> rfl
def psiK (x : Nat) : Nat := Nat.mod (Nat.mul (Nat.add (Nat.mod (Nat.mul x (nat_lit 2147483648)) (nat_lit 18446744073709551616)) (Nat.div x (nat_lit 8589934592))) (nat_lit 11400714785074694791)) (nat_lit 18446744073709551616)
theorem psiK_eq (x : Nat) : psiK x = psiN x := rfl
def trV : Tr := (.n (.n (.n (.n (.n (.n (.n (.n (.n (.l 28765473893748656) 28765473893748656 (.n (.l 91412553632447118) 91412553632447118 (.l 103112410324394172))) 103112410324394172 (.n (.n (.l 122027991151259197) 122027991151259197 (.l 191699929130180060)) 191699929130180060 (.n (.l 217796395519737663) 217796395519737663 (.l 218006601412214130)))) 218006601412214130 (.n (.n (.l 246728107796247171) 246728107796247171 (.n (.l 254491656205499099) 254491656205499099 (.l 255526283892412123))) 255526283892412123 (.n (.n (.l 259726989334309783) 259726989334309783 (.l 260404262816299525)) 260404262816299525 (.n (.l 261527469551360871) 261527469551360871 (.l 274618227550697390))))) 274618227550697390 (.n (.n (.n (.l 281417789111721218) 281417789111721218 (.n (.l 286593436743687526) 286593436743687526 (.l 289960851511140574))) 289960851511140574 (.n (.n (.l 292838747562359536) 292838747562359536 (.l 302096031905443042)) 302096031905443042 (.n (.l 329733327968532328) 329733327968532328 (.l 400829580174606561)))) 400829580174606561 (.n (.n (.n (.l 456658493780478963) 456658493780478963 (.l 502613274275281691)) 502613274275281691 (.n (.l 503632122409627021) 503632122409627021 (.l 528366959452503782))) 528366959452503782 (.n (.n (.l 528680858362448429) 528680858362448429 (.l 552274665449400407)) 552274665449400407 (.n (.l 563948386083327172) 563948386083327172 (.l 594276752981858975)))))) 594276752981858975 (.n (.n (.n (.n (.l 597868407189578288) 597868407189578288 (.n (.l 639555762292953121) 639555762292953121 (.l 656247277466651022))) 656247277466651022 (.n (.n (.l 660139225435234034) 660139225435234034 (.l 667215223838452078)) 667215223838452078 (.n (.l 671332753610419700) 671332753610419700 (.l 676210732534307102)))) 676210732534307102 (.n (.n (.n (.l 681210505282496651) 681210505282496651 (.l 682106462054839685)) 682106462054839685 (.n (.l 689044013296375204) 689044013296375204 (.l 805213333998053737))) 805213333998053737 (.n (.n (.l 834805262421006361) 834805262421006361 (.l 849479986660233693)) 849479986660233693 (.n (.l 852085297296586153) 852085297296586153 (.l 858954019202249347))))) 858954019202249347 (.n (.n (.n (.l 860551999045903370) 860551999045903370 (.n (.l 873845257418636954) 873845257418636954 (.l 891993922832071364))) 891993922832071364 (.n (.n (.l 895585577039790677) 895585577039790677 (.l 932506249144829814)) 932506249144829814 (.n (.l 937272932143165510) 937272932143165510 (.l 940586528229683685)))) 940586528229683685 (.n (.n (.n (.l 945936970116921944) 945936970116921944 (.l 974661534862495976)) 974661534862495976 (.n (.l 997453523677284532) 997453523677284532 (.l 1008036996234758660))) 1008036996234758660 (.n (.n (.l 1052960718314988764) 1052960718314988764 (.l 1070828723310077699)) 1070828723310077699 (.n (.l 1102930503848266126) 1102930503848266126 (.l 1108986954949764774))))))) 1108986954949764774 (.n (.n (.n (.n (.n (.l 1124647231487311758) 1124647231487311758 (.n (.l 1141560708855125894) 1141560708855125894 (.l 1156816486767393446))) 1156816486767393446 (.n (.n (.l 1218227051392366027) 1218227051392366027 (.l 1252615894683157176)) 1252615894683157176 (.n (.l 1259484616588820370) 1259484616588820370 (.l 1259914406495740860)))) 1259914406495740860 (.n (.n (.n (.l 1274375854805207977) 1274375854805207977 (.l 1300914610030735405)) 1300914610030735405 (.n (.l 1310006789123453068) 1310006789123453068 (.l 1310171894373818911))) 1310171894373818911 (.n (.n (.l 1318950341379860291) 1318950341379860291 (.l 1319365849747099984)) 1319365849747099984 (.n (.l 1338109119071820889) 1338109119071820889 (.l 1423647961202395469))))) 1423647961202395469 (.n (.n (.n (.l 1445368289434835241) 1445368289434835241 (.n (.l 1454533656617605835) 1454533656617605835 (.l 1458793829681521355))) 1458793829681521355 (.n (.n (.l 1505381080400953804) 1505381080400953804 (.l 1530302430763294746)) 1530302430763294746 (.n (.l 1536756720830824298) 1536756720830824298 (.l 1541589850726575960)))) 1541589850726575960 (.n (.n (.n (.l 1543764468158325608) 1543764468158325608 (.l 1548965907698096771)) 1548965907698096771 (.n (.l 1591387497720960472) 1591387497720960472 (.l 1598780683200277650))) 1598780683200277650 (.n (.n (.l 1602447547213765208) 1602447547213765208 (.l 1613118724828979148)) 1613118724828979148 (.n (.l 1662274561336276426) 1662274561336276426 (.l 1667810060903602463)))))) 1667810060903602463 (.n (.n (.n (.n (.l 1675291086306827947) 1675291086306827947 (.n (.l 1676762458536155541) 1676762458536155541 (.l 1690182324523215554))) 1690182324523215554 (.n (.n (.l 1703130106029310649) 1703130106029310649 (.l 1723763737105168547)) 1723763737105168547 (.n (.l 1748843316249408414) 1748843316249408414 (.l 1759747799829322214)))) 1759747799829322214 (.n (.n (.n (.l 1765451092208543380) 1765451092208543380 (.l 1767679794096209007)) 1767679794096209007 (.n (.l 1785063576277125977) 1785063576277125977 (.l 1799549463850072661))) 1799549463850072661 (.n (.n (.l 1813039869427534077) 1813039869427534077 (.l 1824178558588966492)) 1824178558588966492 (.n (.l 1832661222078122414) 1832661222078122414 (.l 1833910278442925362))))) 1833910278442925362 (.n (.n (.n (.l 1839823521386913374) 1839823521386913374 (.n (.l 1841481638008537997) 1841481638008537997 (.l 1869709842924911044))) 1869709842924911044 (.n (.n (.l 1872040215277414997) 1872040215277414997 (.l 1874587821848798446)) 1874587821848798446 (.n (.l 1897199207000414527) 1897199207000414527 (.l 1911777771485839818)))) 1911777771485839818 (.n (.n (.n (.l 1917727713073643248) 1917727713073643248 (.l 1954012832585297813)) 1954012832585297813 (.n (.l 1954129374512044420) 1954129374512044420 (.l 1954716818356816741))) 1954716818356816741 (.n (.n (.l 1975720633908472345) 1975720633908472345 (.l 1983945986355830079)) 1983945986355830079 (.n (.l 1988823965279717481) 1988823965279717481 (.l 2005529386145660401)))))))) 2005529386145660401 (.n (.n (.n (.n (.n (.n (.l 2016724784278825019) 2016724784278825019 (.n (.l 2040481485847538718) 2040481485847538718 (.l 2099590808344437125))) 2099590808344437125 (.n (.n (.l 2114482046560824732) 2114482046560824732 (.l 2119158265726691879)) 2119158265726691879 (.n (.l 2128107745542725770) 2128107745542725770 (.l 2135702916851678584)))) 2135702916851678584 (.n (.n (.l 2162085837361809846) 2162085837361809846 (.n (.l 2175554269547329791) 2175554269547329791 (.l 2239985028306974069))) 2239985028306974069 (.n (.n (.l 2252540194857079696) 2252540194857079696 (.l 2319502601360945078)) 2319502601360945078 (.n (.l 2327637615762013756) 2327637615762013756 (.l 2360101535262904208))))) 2360101535262904208 (.n (.n (.n (.l 2385828339412001723) 2385828339412001723 (.n (.l 2424513245900178501) 2424513245900178501 (.l 2462609519085981704))) 2462609519085981704 (.n (.n (.l 2475110329013294882) 2475110329013294882 (.l 2479988307937182284)) 2479988307937182284 (.n (.l 2506513050021702189) 2506513050021702189 (.l 2569278778288741281)))) 2569278778288741281 (.n (.n (.n (.l 2591350639017533866) 2591350639017533866 (.l 2611608899379322708)) 2611608899379322708 (.n (.l 2617683237846408605) 2617683237846408605 (.l 2622785127119229290))) 2622785127119229290 (.n (.n (.l 2629918533681447131) 2629918533681447131 (.l 2654269918712023065)) 2654269918712023065 (.n (.l 2657818705113116597) 2657818705113116597 (.l 2669485554347055878)))))) 2669485554347055878 (.n (.n (.n (.n (.l 2669659798073915867) 2669659798073915867 (.n (.l 2686046910029489644) 2686046910029489644 (.l 2687381676940072818))) 2687381676940072818 (.n (.n (.l 2690924888953377046) 2690924888953377046 (.l 2694739377218155734)) 2694739377218155734 (.n (.l 2703892762095004101) 2703892762095004101 (.l 2836732814677358404)))) 2836732814677358404 (.n (.n (.n (.l 2840737084546498283) 2840737084546498283 (.l 2873668175621319291)) 2873668175621319291 (.n (.l 2888559413837706898) 2888559413837706898 (.l 2915927875449015725))) 2915927875449015725 (.n (.n (.l 2930819113665403332) 2930819113665403332 (.l 2951987088562235454)) 2951987088562235454 (.n (.l 2985098846790285207) 2985098846790285207 (.l 2987904319052238326))))) 2987904319052238326 (.n (.n (.n (.l 2993422797627853709) 2993422797627853709 (.n (.l 3002795557268625933) 3002795557268625933 (.l 3041781823196271917))) 3041781823196271917 (.n (.n (.l 3098084462223785265) 3098084462223785265 (.l 3104401294407080190)) 3104401294407080190 (.n (.l 3107666670812812994) 3107666670812812994 (.l 3121952687893639844)))) 3121952687893639844 (.n (.n (.n (.l 3122557909029200601) 3122557909029200601 (.l 3134128899445076117)) 3134128899445076117 (.n (.l 3162562281404855820) 3162562281404855820 (.l 3256208485311252843))) 3256208485311252843 (.n (.n (.l 3315628766449805349) 3315628766449805349 (.l 3324886050792888855)) 3324886050792888855 (.n (.l 3351441711268746899) 3351441711268746899 (.l 3396840300891815299))))))) 3396840300891815299 (.n (.n (.n (.n (.n (.l 3452982543839106490) 3452982543839106490 (.n (.l 3478736229016328581) 3478736229016328581 (.l 3479068661709703129))) 3479068661709703129 (.n (.n (.l 3485996865178494467) 3485996865178494467 (.l 3487757636451868765)) 3487757636451868765 (.n (.l 3493959899926090736) 3493959899926090736 (.l 3508197268199384017)))) 3508197268199384017 (.n (.n (.n (.l 3523088506415771624) 3523088506415771624 (.l 3540240218834047171)) 3540240218834047171 (.n (.l 3551470877249894242) 3551470877249894242 (.l 3563092878791426843))) 3563092878791426843 (.n (.n (.l 3572451939415073759) 3572451939415073759 (.l 3639413282860200003)) 3639413282860200003 (.n (.l 3667310638352372966) 3667310638352372966 (.l 3690005242725897891))))) 3690005242725897891 (.n (.n (.n (.l 3695457539408448687) 3695457539408448687 (.n (.l 3704896480942285498) 3704896480942285498 (.l 3717583465364526773))) 3717583465364526773 (.n (.n (.l 3751972308655317922) 3751972308655317922 (.l 3759270820467901606)) 3759270820467901606 (.n (.l 3780165248627613324) 3780165248627613324 (.l 3795323025235111549)))) 3795323025235111549 (.n (.n (.n (.l 3924003737917391594) 3924003737917391594 (.l 3930133857106981041)) 3930133857106981041 (.n (.l 3938894976133779201) 3938894976133779201 (.l 3949150910728643807))) 3949150910728643807 (.n (.n (.l 3957943828118699266) 3957943828118699266 (.l 3978899348509434420)) 3978899348509434420 (.n (.l 3993174709258661076) 3993174709258661076 (.l 3994838408524872058)))))) 3994838408524872058 (.n (.n (.n (.n (.l 4001498660096229578) 4001498660096229578 (.n (.l 4020243542564730345) 4020243542564730345 (.l 4027518332596108102))) 4027518332596108102 (.n (.n (.l 4049857685664647786) 4049857685664647786 (.l 4100219798124827657)) 4100219798124827657 (.n (.l 4107768497210938178) 4107768497210938178 (.l 4172458319803224167)))) 4172458319803224167 (.n (.n (.n (.l 4195188321906435798) 4195188321906435798 (.l 4213224872458081113)) 4213224872458081113 (.n (.l 4223952598622075743) 4223952598622075743 (.l 4238701274885131373))) 4238701274885131373 (.n (.n (.l 4269319610943685090) 4269319610943685090 (.l 4273312023028837249)) 4273312023028837249 (.n (.l 4388789006519652359) 4388789006519652359 (.l 4393660086691887976))))) 4393660086691887976 (.n (.n (.n (.l 4398669053561190869) 4398669053561190869 (.n (.l 4416023836333094218) 4416023836333094218 (.l 4428048929982679125))) 4428048929982679125 (.n (.n (.l 4435347441795262809) 4435347441795262809 (.l 4454073232328977487)) 4454073232328977487 (.n (.l 4455750349964778603) 4455750349964778603 (.l 4457711191436469051)))) 4457711191436469051 (.n (.n (.n (.l 4461058406307482359) 4461058406307482359 (.l 4477323675505051648)) 4477323675505051648 (.n (.l 4486812091484704450) 4486812091484704450 (.l 4490113395776853313))) 4490113395776853313 (.n (.n (.l 4494133737722150407) 4494133737722150407 (.l 4531150287109324041)) 4531150287109324041 (.n (.l 4538600073899004041) 4538600073899004041 (.l 4543327606509603153))))))))) 4543327606509603153 (.n (.n (.n (.n (.n (.n (.n (.l 4568215252971508725) 4568215252971508725 (.n (.l 4573093231895396127) 4573093231895396127 (.l 4613570816649656791))) 4613570816649656791 (.n (.n (.l 4647489145328575872) 4647489145328575872 (.l 4780371268789715005)) 4780371268789715005 (.n (.l 4787137200336026326) 4787137200336026326 (.l 4791850907572362796)))) 4791850907572362796 (.n (.n (.l 4810404070892154513) 4810404070892154513 (.n (.l 4855451240965568227) 4855451240965568227 (.l 4861589003694053382))) 4861589003694053382 (.n (.n (.l 4874559243476883732) 4874559243476883732 (.l 4898528829743542666)) 4898528829743542666 (.n (.l 4917839648573006109) 4917839648573006109 (.l 4967094053842649818))))) 4967094053842649818 (.n (.n (.n (.l 5048019742715146895) 5048019742715146895 (.n (.l 5057499375975116577) 5057499375975116577 (.l 5103445576369033231))) 5103445576369033231 (.n (.n (.l 5116576185183318213) 5116576185183318213 (.l 5122380827231882938)) 5122380827231882938 (.n (.l 5130149853656338690) 5130149853656338690 (.l 5137272065448270545)))) 5137272065448270545 (.n (.n (.n (.l 5184909798766126087) 5184909798766126087 (.l 5188574451827937515)) 5188574451827937515 (.n (.l 5214521569219553210) 5214521569219553210 (.l 5236616970662801973))) 5236616970662801973 (.n (.n (.l 5251508208879189580) 5251508208879189580 (.l 5277395473412060959)) 5277395473412060959 (.n (.l 5310470804826729007) 5310470804826729007 (.l 5320056916838073284)))))) 5320056916838073284 (.n (.n (.n (.n (.l 5342893851752123996) 5342893851752123996 (.n (.l 5361919897301841538) 5361919897301841538 (.l 5368131014292257183))) 5368131014292257183 (.n (.n (.l 5463826212433154472) 5463826212433154472 (.l 5484496134867751361)) 5484496134867751361 (.n (.l 5492953448203551232) 5492953448203551232 (.l 5502209600190526276)))) 5502209600190526276 (.n (.n (.n (.l 5543864343180069806) 5543864343180069806 (.l 5558083522768787474)) 5558083522768787474 (.n (.l 5567340807111870980) 5567340807111870980 (.l 5572173585667916972))) 5572173585667916972 (.n (.n (.l 5576291115439884594) 5576291115439884594 (.l 5581169094363771996)) 5581169094363771996 (.n (.l 5587064823884304579) 5587064823884304579 (.l 5598883148642630113))))) 5598883148642630113 (.n (.n (.n (.l 5603474267440604926) 5603474267440604926 (.n (.l 5608187974676941396) 5608187974676941396 (.l 5620029067637740666))) 5620029067637740666 (.n (.n (.l 5626741137996733113) 5626741137996733113 (.l 5632699733510313449)) 5632699733510313449 (.n (.l 5710171695827518631) 5710171695827518631 (.l 5727781313320266776)))) 5727781313320266776 (.n (.n (.n (.l 5742672551536654383) 5742672551536654383 (.l 5748304206714930504)) 5748304206714930504 (.n (.l 5793925633568876367) 5793925633568876367 (.l 5799926770040738665))) 5799926770040738665 (.n (.n (.l 5827715318622175322) 5827715318622175322 (.l 5856760146703844379)) 5856760146703844379 (.n (.l 5866578235673286658) 5866578235673286658 (.l 5892536162158883925))))))) 5892536162158883925 (.n (.n (.n (.n (.n (.l 5902735097105027925) 5902735097105027925 (.n (.l 5902740197577097299) 5902740197577097299 (.l 5924225276864567348))) 5924225276864567348 (.n (.n (.l 5933482561207650854) 5933482561207650854 (.l 5938717894336461538)) 5938717894336461538 (.n (.l 5953609132552849145) 5953609132552849145 (.l 5958614120155358497)))) 5958614120155358497 (.n (.n (.n (.l 5965912631967942181) 5965912631967942181 (.l 5967871404498442003)) 5967871404498442003 (.n (.l 5975169916311025687) 5975169916311025687 (.l 6007888865677731020))) 6007888865677731020 (.n (.n (.l 6016212816515299522) 6016212816515299522 (.l 6048634809034014736)) 6048634809034014736 (.n (.l 6105255875140924197) 6105255875140924197 (.l 6160067387664656241))))) 6160067387664656241 (.n (.n (.n (.l 6160523775492110407) 6160523775492110407 (.n (.l 6178256964406420138) 6178256964406420138 (.l 6194456230955447390))) 6194456230955447390 (.n (.n (.l 6200457367427309688) 6200457367427309688 (.l 6201754742768031074)) 6201754742768031074 (.n (.l 6258677916254663799) 6258677916254663799 (.l 6262698298883712470)))) 6262698298883712470 (.n (.n (.n (.l 6301468481649870322) 6301468481649870322 (.l 6317213758442605712)) 6317213758442605712 (.n (.l 6318546667295104876) 6318546667295104876 (.l 6390963669017807697))) 6390963669017807697 (.n (.n (.l 6433024969768073759) 6433024969768073759 (.l 6435260792592759640)) 6435260792592759640 (.n (.l 6436366134742319266) 6436366134742319266 (.l 6472425347855538995)))))) 6472425347855538995 (.n (.n (.n (.n (.l 6475772562726552303) 6475772562726552303 (.n (.l 6504821543324120150) 6504821543324120150 (.l 6507215042691686084))) 6507215042691686084 (.n (.n (.l 6580249448136292841) 6580249448136292841 (.l 6590008706157471338)) 6590008706157471338 (.n (.l 6594637085832543490) 6594637085832543490 (.l 6595140686352680448)))) 6595140686352680448 (.n (.n (.n (.l 6609650397175892677) 6609650397175892677 (.l 6616263837145317265)) 6616263837145317265 (.n (.l 6627206993165615888) 6627206993165615888 (.l 6628104930106116535))) 6628104930106116535 (.n (.n (.l 6628840052979492344) 6628840052979492344 (.l 6650203927346624937)) 6650203927346624937 (.n (.l 6660715043829018062) 6660715043829018062 (.l 6662203301747645816))))) 6662203301747645816 (.n (.n (.n (.l 6663228896270283493) 6663228896270283493 (.n (.l 6669972328172101568) 6669972328172101568 (.l 6670527408082867177))) 6670527408082867177 (.n (.n (.l 6719778431824033773) 6719778431824033773 (.l 6776439445178564851)) 6776439445178564851 (.n (.l 6785137358222476242) 6785137358222476242 (.l 6859568049345933462)))) 6859568049345933462 (.n (.n (.n (.l 6880503126670805840) 6880503126670805840 (.l 6890298398807400349)) 6890298398807400349 (.n (.l 6896557154629106955) 6896557154629106955 (.l 6915380250305254964))) 6915380250305254964 (.n (.n (.l 6915532942582883540) 6915532942582883540 (.l 6943554789613556129)) 6943554789613556129 (.n (.l 6957067605408629797) 6957067605408629797 (.l 6998356754749251739)))))))) 6998356754749251739 (.n (.n (.n (.n (.n (.n (.l 7028635527492687558) 7028635527492687558 (.n (.l 7042366722278281998) 7042366722278281998 (.l 7063048781000688533))) 7063048781000688533 (.n (.n (.l 7081173048814936141) 7081173048814936141 (.l 7085920185919813647)) 7085920185919813647 (.n (.l 7097905997284550352) 7097905997284550352 (.l 7107260029975688077)))) 7107260029975688077 (.n (.n (.l 7111996060183679850) 7111996060183679850 (.n (.l 7120309029210604796) 7120309029210604796 (.l 7127607541023188480))) 7127607541023188480 (.n (.n (.l 7180556271820262041) 7180556271820262041 (.l 7227944740585388543)) 7227944740585388543 (.n (.l 7234684498107337469) 7234684498107337469 (.l 7267603787836029654))))) 7267603787836029654 (.n (.n (.n (.l 7292109629831130903) 7292109629831130903 (.n (.l 7319932052633789148) 7319932052633789148 (.l 7321158610428698750))) 7321158610428698750 (.n (.n (.l 7323552109796264684) 7323552109796264684 (.l 7325289620910981581)) 7325289620910981581 (.n (.l 7365329819943943058) 7365329819943943058 (.l 7438738704831473969)))) 7438738704831473969 (.n (.n (.n (.l 7444441997210695135) 7444441997210695135 (.l 7464047751380330226)) 7464047751380330226 (.n (.l 7478540368852224416) 7478540368852224416 (.l 7498436594671121375))) 7498436594671121375 (.n (.n (.l 7505735106483705059) 7505735106483705059 (.l 7516923756609596220)) 7516923756609596220 (.n (.l 7535503195431050083) 7535503195431050083 (.l 7559523574118698819)))))) 7559523574118698819 (.n (.n (.n (.n (.l 7590788928971468337) 7590788928971468337 (.n (.l 7591005271858954538) 7591005271858954538 (.l 7591456871632616167))) 7591456871632616167 (.n (.n (.l 7595883250782841940) 7595883250782841940 (.l 7631159900040515255)) 7631159900040515255 (.n (.l 7633144226735991000) 7633144226735991000 (.l 7643712782600470612)))) 7643712782600470612 (.n (.n (.n (.l 7712753545513543878) 7712753545513543878 (.l 7714599846215786566)) 7714599846215786566 (.n (.l 7788784328347917865) 7788784328347917865 (.l 7814640926459808609))) 7814640926459808609 (.n (.n (.l 7820886237278480619) 7820886237278480619 (.l 7822409952884264361)) 7822409952884264361 (.n (.l 7835777475494868226) 7835777475494868226 (.l 7856560357108578701))))) 7856560357108578701 (.n (.n (.n (.l 7861276311274002284) 7861276311274002284 (.n (.l 7862187289681986023) 7862187289681986023 (.l 7875693110651530633))) 7875693110651530633 (.n (.n (.l 7888578989139181709) 7888578989139181709 (.l 7907287269686114296)) 7907287269686114296 (.n (.l 7926243379572076566) 7926243379572076566 (.l 7928877069890727644)))) 7928877069890727644 (.n (.n (.n (.l 7931531099859231451) 7931531099859231451 (.l 7939022228273786093)) 7939022228273786093 (.n (.l 7952626452146500756) 7952626452146500756 (.l 7966716515045630254))) 7966716515045630254 (.n (.n (.l 8039087261274541011) 8039087261274541011 (.l 8122324242697980058)) 8122324242697980058 (.n (.l 8164890838783378009) 8164890838783378009 (.l 8168766160294041456))))))) 8168766160294041456 (.n (.n (.n (.n (.n (.l 8195330750289461376) 8195330750289461376 (.n (.l 8200537518344780940) 8200537518344780940 (.l 8201382677925131074))) 8201382677925131074 (.n (.n (.l 8250343621996713145) 8250343621996713145 (.l 8278175421481080855)) 8278175421481080855 (.n (.l 8312289166865666337) 8312289166865666337 (.l 8318768206242280630)))) 8318768206242280630 (.n (.n (.n (.l 8333260823714174820) 8333260823714174820 (.l 8353157049533071779)) 8353157049533071779 (.n (.l 8360455561345655463) 8360455561345655463 (.l 8397313334729220295))) 8397313334729220295 (.n (.n (.l 8418230616152276172) 8418230616152276172 (.l 8420041412548192447)) 8420041412548192447 (.n (.l 8427651360685373289) 8427651360685373289 (.l 8434865404431576160))))) 8434865404431576160 (.n (.n (.n (.l 8485376372373856225) 8485376372373856225 (.n (.l 8530724547104603235) 8530724547104603235 (.l 8537352932601363487))) 8537352932601363487 (.n (.n (.l 8558838334901212329) 8558838334901212329 (.l 8594963604555362785)) 8594963604555362785 (.n (.l 8609854842771750392) 8609854842771750392 (.l 8616485376092493019)))) 8616485376092493019 (.n (.n (.n (.l 8630977993564387209) 8630977993564387209 (.l 8642819086525186479)) 8642819086525186479 (.n (.l 8650874219383284168) 8650874219383284168 (.l 8658172731195867852))) 8658172731195867852 (.n (.n (.l 8677613378378580884) 8677613378378580884 (.l 8682292919808479552)) 8682292919808479552 (.n (.l 8741661128120797997) 8741661128120797997 (.l 8757055229956105514)))))) 8757055229956105514 (.n (.n (.n (.n (.l 8760301132359659859) 8760301132359659859 (.n (.l 8768055850688927869) 8768055850688927869 (.l 8814533911595090922))) 8814533911595090922 (.n (.n (.l 8828962099746856488) 8828962099746856488 (.l 8830288509734248347)) 8830288509734248347 (.n (.l 8843853337963244095) 8843853337963244095 (.l 8858363048786456324)))) 8858363048786456324 (.n (.n (.n (.l 8909906510022166857) 8909906510022166857 (.l 8917700651741607043)) 8917700651741607043 (.n (.l 8960349261955031914) 8960349261955031914 (.l 8971781761827699741))) 8971781761827699741 (.n (.n (.l 9055257973206731344) 9055257973206731344 (.l 9066068385603729455)) 9066068385603729455 (.n (.l 9094512488585659455) 9094512488585659455 (.l 9122022061805295539))))) 9122022061805295539 (.n (.n (.n (.l 9128626233970244937) 9128626233970244937 (.n (.l 9131279346148379045) 9131279346148379045 (.l 9148689060682678900))) 9148689060682678900 (.n (.n (.l 9163709416908670372) 9163709416908670372 (.l 9172966701251753878)) 9172966701251753878 (.n (.l 9174277972773149984) 9174277972773149984 (.l 9184370725426916887)))) 9184370725426916887 (.n (.n (.n (.l 9201192221884592088) 9201192221884592088 (.l 9232980817601485083)) 9232980817601485083 (.n (.l 9248219572613570317) 9248219572613570317 (.l 9251442844417225514))) 9251442844417225514 (.n (.n (.l 9295486669211101664) 9295486669211101664 (.l 9305055436036617353)) 9305055436036617353 (.n (.l 9320365029334042206) 9320365029334042206 (.l 9327277453695944173)))))))))) 9327277453695944173 (.n (.n (.n (.n (.n (.n (.n (.n (.l 9352975143056943733) 9352975143056943733 (.n (.l 9353689999705942087) 9353689999705942087 (.l 9357864172605384432))) 9357864172605384432 (.n (.n (.l 9358016864883013008) 9358016864883013008 (.l 9360708711794243497)) 9360708711794243497 (.n (.l 9370457411961754414) 9370457411961754414 (.l 9399551527708759265)))) 9399551527708759265 (.n (.n (.l 9442941266899952029) 9442941266899952029 (.n (.l 9459156153629765079) 9459156153629765079 (.l 9470345374590249367))) 9470345374590249367 (.n (.n (.l 9527698648550378216) 9527698648550378216 (.l 9576638199464238459)) 9576638199464238459 (.n (.l 9586033695059560710) 9586033695059560710 (.l 9647858383155060944))))) 9647858383155060944 (.n (.n (.n (.l 9648062486967407857) 9648062486967407857 (.n (.l 9720895626720613229) 9720895626720613229 (.l 9725895940462140748))) 9725895940462140748 (.n (.n (.l 9771839397099205352) 9771839397099205352 (.l 9780347069971972353)) 9780347069971972353 (.n (.l 9808236225729262466) 9808236225729262466 (.l 9826636837920220535)))) 9826636837920220535 (.n (.n (.n (.l 9833460028177936663) 9833460028177936663 (.l 9838338007101824065)) 9838338007101824065 (.n (.l 9868324193023595368) 9868324193023595368 (.l 9880844251704559129))) 9880844251704559129 (.n (.n (.l 9884629181427267838) 9884629181427267838 (.l 9903293145558251653)) 9903293145558251653 (.n (.l 9917149857684792667) 9917149857684792667 (.l 9926299013737814169)))))) 9926299013737814169 (.n (.n (.n (.n (.l 9998253263836740613) 9998253263836740613 (.n (.l 10015941562546535597) 10015941562546535597 (.l 10040686334588473265))) 10040686334588473265 (.n (.n (.l 10067779911521804114) 10067779911521804114 (.l 10067918122774042859)) 10067918122774042859 (.n (.l 10077175407117126365) 10077175407117126365 (.l 10136702096438620806)))) 10136702096438620806 (.n (.n (.n (.l 10152545083004337797) 10152545083004337797 (.l 10154943246787235918)) 10154943246787235918 (.n (.l 10174960150705174363) 10174960150705174363 (.l 10182353835241525853))) 10182353835241525853 (.n (.n (.l 10199601782273716537) 10199601782273716537 (.l 10204479761197603939)) 10204479761197603939 (.n (.l 10215429166656193901) 10215429166656193901 (.l 10233990625564507686))))) 10233990625564507686 (.n (.n (.n (.l 10238868604488395088) 10238868604488395088 (.n (.l 10241289137377091370) 10241289137377091370 (.l 10246167116300978772))) 10246167116300978772 (.n (.n (.l 10270462469732140177) 10270462469732140177 (.l 10283716970860541838)) 10283716970860541838 (.n (.l 10303760233574131752) 10303760233574131752 (.l 10321583587247324502)))) 10321583587247324502 (.n (.n (.n (.l 10325404325963916671) 10325404325963916671 (.l 10338782604848962335)) 10338782604848962335 (.n (.l 10368784574262619366) 10368784574262619366 (.l 10375802240297912973))) 10375802240297912973 (.n (.n (.l 10402370762164139310) 10402370762164139310 (.l 10477706004503697388)) 10477706004503697388 (.n (.l 10485579933997164257) 10485579933997164257 (.l 10489394975894306268))))))) 10489394975894306268 (.n (.n (.n (.n (.n (.l 10512778625308062919) 10512778625308062919 (.n (.l 10513146336506406290) 10513146336506406290 (.l 10562652788507867175))) 10562652788507867175 (.n (.n (.l 10632208169521972847) 10632208169521972847 (.l 10654062770708840375)) 10654062770708840375 (.n (.l 10661844536321058417) 10661844536321058417 (.l 10690369156519748477)))) 10690369156519748477 (.n (.n (.n (.l 10703531891424433250) 10703531891424433250 (.l 10703659888073458404)) 10703659888073458404 (.n (.l 10730414026996951678) 10730414026996951678 (.l 10772532898888967855))) 10772532898888967855 (.n (.n (.l 10798600482976134593) 10798600482976134593 (.l 10811645580837827083)) 10811645580837827083 (.n (.l 10814590330941319213) 10814590330941319213 (.l 10822194290063086571))))) 10822194290063086571 (.n (.n (.n (.l 10837418360874344910) 10837418360874344910 (.n (.l 10841128267856749508) 10841128267856749508 (.l 10843676256165926432))) 10843676256165926432 (.n (.n (.l 10852309599090732517) 10852309599090732517 (.l 10858567494382314039)) 10858567494382314039 (.n (.l 10884255189878621459) 10884255189878621459 (.l 10893512474221704965)))) 10893512474221704965 (.n (.n (.n (.l 10936091549238167251) 10936091549238167251 (.l 10940969528162054653)) 10940969528162054653 (.n (.l 10954787673950603659) 10954787673950603659 (.l 11015564511566761422))) 11015564511566761422 (.n (.n (.l 11120097300678710352) 11120097300678710352 (.l 11138906547629407396)) 11138906547629407396 (.n (.l 11163019109255611787) 11163019109255611787 (.l 11178423573327740316)))))) 11178423573327740316 (.n (.n (.n (.n (.l 11187680857670823822) 11187680857670823822 (.n (.l 11203560114970124784) 11203560114970124784 (.l 11215727458385426550))) 11215727458385426550 (.n (.n (.l 11218451353186512391) 11218451353186512391 (.l 11223505029124569770)) 11223505029124569770 (.n (.l 11226658781636934209) 11226658781636934209 (.l 11229613031829289158)))) 11229613031829289158 (.n (.n (.n (.l 11237948958260915933) 11237948958260915933 (.l 11245247470073499617)) 11245247470073499617 (.n (.l 11246097062327315289) 11246097062327315289 (.l 11252840196477303540))) 11252840196477303540 (.n (.n (.l 11260138708289887224) 11260138708289887224 (.l 11305732042998884868)) 11305732042998884868 (.n (.l 11305755311166182990) 11305755311166182990 (.l 11310091513052713893))))) 11310091513052713893 (.n (.n (.n (.l 11335079185753112150) 11335079185753112150 (.n (.l 11341324496571784160) 11341324496571784160 (.l 11378219076977956952))) 11378219076977956952 (.n (.n (.l 11384173538653753724) 11384173538653753724 (.l 11414265684127829209)) 11414265684127829209 (.n (.l 11431133305703682238) 11431133305703682238 (.l 11449315329184031185)))) 11449315329184031185 (.n (.n (.n (.l 11487722202165188286) 11487722202165188286 (.l 11506706223624327077)) 11506706223624327077 (.n (.l 11516564991183008821) 11516564991183008821 (.l 11521222198974782159))) 11521222198974782159 (.n (.n (.l 11558252346286383654) 11558252346286383654 (.l 11575184476061309981)) 11575184476061309981 (.n (.l 11588869965993546455) 11588869965993546455 (.l 11603935947651646517)))))))) 11603935947651646517 (.n (.n (.n (.n (.n (.n (.l 11606729516493576655) 11606729516493576655 (.n (.l 11607740597289805737) 11607740597289805737 (.l 11623543501629728189))) 11623543501629728189 (.n (.n (.l 11627982647942405683) 11627982647942405683 (.l 11632662189372304351)) 11632662189372304351 (.n (.l 11724453281231291999) 11724453281231291999 (.l 11745510653314001461)))) 11745510653314001461 (.n (.n (.l 11809941412073645739) 11809941412073645739 (.n (.l 11811509319208184223) 11811509319208184223 (.l 11814282161033221210))) 11814282161033221210 (.n (.n (.l 11819721443306202952) 11819721443306202952 (.l 11855969516136596043)) 11855969516136596043 (.n (.l 11864888303967962649) 11864888303967962649 (.l 11883038349442665312))))) 11883038349442665312 (.n (.n (.n (.l 11896775138577971504) 11896775138577971504 (.n (.l 11932477174257393376) 11932477174257393376 (.l 11940049881934575498))) 11940049881934575498 (.n (.n (.l 11940479671841495988) 11940479671841495988 (.l 11954941120150963105)) 11954941120150963105 (.n (.l 11979849744036628398) 11979849744036628398 (.l 11998495897693529577)))) 11998495897693529577 (.n (.n (.n (.l 12043343815480742291) 12043343815480742291 (.l 12045939272686709156)) 12045939272686709156 (.n (.l 12045950098933867758) 12045950098933867758 (.l 12060497907449784853))) 12060497907449784853 (.n (.n (.l 12068369035622717720) 12068369035622717720 (.l 12147418900939568603)) 12147418900939568603 (.n (.l 12148665923439728461) 12148665923439728461 (.l 12151416252857690750)))))) 12151416252857690750 (.n (.n (.n (.n (.l 12176383359137383101) 12176383359137383101 (.n (.l 12197067991660595797) 12197067991660595797 (.l 12217729873694999221))) 12217729873694999221 (.n (.n (.l 12220252040692773975) 12220252040692773975 (.l 12232489727616577761)) 12232489727616577761 (.n (.l 12236034638203754218) 12236034638203754218 (.l 12298618928353173250)))) 12298618928353173250 (.n (.n (.n (.l 12303612573383766267) 12303612573383766267 (.l 12304059269269766886)) 12304059269269766886 (.n (.l 12340118482382986615) 12340118482382986615 (.l 12349400359040160029))) 12349400359040160029 (.n (.n (.l 12350899632594323674) 12350899632594323674 (.l 12383498730681689310)) 12383498730681689310 (.n (.l 12388114115721110625) 12388114115721110625 (.l 12424077664394384337))))) 12424077664394384337 (.n (.n (.n (.l 12462461052151756141) 12462461052151756141 (.n (.l 12495798064633564155) 12495798064633564155 (.l 12507093305038521338))) 12507093305038521338 (.n (.n (.l 12561847720418580061) 12561847720418580061 (.l 12634578097931052941)) 12634578097931052941 (.n (.l 12636058510410781552) 12636058510410781552 (.l 12640738051840680220)))) 12640738051840680220 (.n (.n (.n (.l 12645889347208088209) 12645889347208088209 (.l 12704085283211747787)) 12704085283211747787 (.n (.l 12718246047843503194) 12718246047843503194 (.l 12731173466160069185))) 12731173466160069185 (.n (.n (.l 12760178222001968530) 12760178222001968530 (.l 12814832964798108177)) 12814832964798108177 (.n (.l 12848986130716159928) 12848986130716159928 (.l 12896328662020135178))))))) 12896328662020135178 (.n (.n (.n (.n (.n (.l 12946693454279441883) 12946693454279441883 (.n (.l 12974316484205341019) 12974316484205341019 (.l 13018287392337867658))) 13018287392337867658 (.n (.n (.l 13027544676680951164) 13027544676680951164 (.l 13047313134586698240)) 13047313134586698240 (.n (.l 13086131012484908557) 13086131012484908557 (.l 13087149072556082666)))) 13087149072556082666 (.n (.n (.n (.l 13095630357913957355) 13095630357913957355 (.l 13101022250701296164)) 13101022250701296164 (.n (.l 13238219185543639714) 13238219185543639714 (.l 13239726314857186411))) 13239726314857186411 (.n (.n (.l 13245360421604427433) 13245360421604427433 (.l 13250649234908401660)) 13250649234908401660 (.n (.l 13254129503137956551) 13254129503137956551 (.l 13255018471403971371))))) 13255018471403971371 (.n (.n (.n (.l 13271385291117026882) 13271385291117026882 (.n (.l 13278798119256334741) 13278798119256334741 (.l 13312135131738142755))) 13312135131738142755 (.n (.n (.l 13352740031727964109) 13352740031727964109 (.l 13363493121894774135)) 13363493121894774135 (.n (.l 13377194694640477515) 13377194694640477515 (.l 13391001021018480478)))) 13391001021018480478 (.n (.n (.n (.l 13397398567214444728) 13397398567214444728 (.l 13402276546138332130)) 13402276546138332130 (.n (.l 13405216067311309691) 13405216067311309691 (.l 13428075274067522187))) 13428075274067522187 (.n (.n (.l 13439085922317819561) 13439085922317819561 (.l 13443963901241706963)) 13443963901241706963 (.n (.l 13452272766580688431) 13452272766580688431 (.l 13467164004797076038)))))) 13467164004797076038 (.n (.n (.n (.n (.l 13486661609871479580) 13486661609871479580 (.n (.l 13493960121684063264) 13493960121684063264 (.l 13501552848087867187))) 13501552848087867187 (.n (.n (.l 13508851359900450871) 13508851359900450871 (.l 13520422350316326387)) 13520422350316326387 (.n (.l 13535936355393852103) 13535936355393852103 (.l 13548855732276106090)))) 13548855732276106090 (.n (.n (.n (.l 13572966502705453598) 13572966502705453598 (.l 13576515289106547130)) 13576515289106547130 (.n (.l 13588422752941714837) 13588422752941714837 (.l 13646282065357862325))) 13646282065357862325 (.n (.n (.l 13646619489950262891) 13646619489950262891 (.l 13677154110403015396)) 13677154110403015396 (.n (.l 13681046643102875327) 13681046643102875327 (.l 13682314827424484097))))) 13682314827424484097 (.n (.n (.n (.l 13718573740049189335) 13718573740049189335 (.n (.l 13722841608199243647) 13722841608199243647 (.l 13722902168452792654))) 13722902168452792654 (.n (.n (.l 13735867425949497442) 13735867425949497442 (.l 13815980073978726632)) 13815980073978726632 (.n (.l 13834435599725272896) 13834435599725272896 (.l 13834624459442446258)))) 13834624459442446258 (.n (.n (.n (.l 13843881743785529764) 13843881743785529764 (.l 13870683672555665987)) 13870683672555665987 (.n (.l 13912215710553313070) 13912215710553313070 (.l 13948671743156191931))) 13948671743156191931 (.n (.n (.l 13949110290959485862) 13949110290959485862 (.l 13979963001768325141)) 13979963001768325141 (.n (.l 14026363254806243527) 14026363254806243527 (.l 14028322027336743349))))))))) 14028322027336743349 (.n (.n (.n (.n (.n (.n (.n (.l 14033584595799709831) 14033584595799709831 (.n (.l 14035620539149327033) 14035620539149327033 (.l 14036237707977843939))) 14036237707977843939 (.n (.n (.l 14070466570242535151) 14070466570242535151 (.l 14108191958076770383)) 14108191958076770383 (.n (.l 14123246390667027376) 14123246390667027376 (.l 14179982301393113957)))) 14179982301393113957 (.n (.n (.l 14188762533545139145) 14188762533545139145 (.n (.l 14203653771761526752) 14203653771761526752 (.l 14262205365606332420))) 14262205365606332420 (.n (.n (.l 14343294628183192048) 14343294628183192048 (.l 14348172607107079450)) 14348172607107079450 (.n (.l 14354383724097495095) 14354383724097495095 (.l 14360815894196339978))))) 14360815894196339978 (.n (.n (.n (.l 14364114515459229973) 14364114515459229973 (.n (.l 14374392673414341680) 14374392673414341680 (.l 14401356899910852975))) 14401356899910852975 (.n (.n (.l 14416248138127240582) 14416248138127240582 (.l 14426893852192814550)) 14426893852192814550 (.n (.l 14436151136535898056) 14436151136535898056 (.l 14439522747979577922)))) 14439522747979577922 (.n (.n (.n (.l 14439836085813656734) 14439836085813656734 (.l 14442692878819285396)) 14442692878819285396 (.n (.l 14443044255014227808) 14443044255014227808 (.l 14457935493230615415))) 14457935493230615415 (.n (.n (.l 14465276433156800013) 14465276433156800013 (.l 14510512221052634099)) 14510512221052634099 (.n (.l 14527732690649204251) 14527732690649204251 (.l 14534910807153767935)))))) 14534910807153767935 (.n (.n (.n (.n (.l 14539239235557371254) 14539239235557371254 (.n (.l 14558109866853630536) 14558109866853630536 (.l 14565272166162421496))) 14565272166162421496 (.n (.n (.l 14624748364483553134) 14624748364483553134 (.l 14625953487000671435)) 14625953487000671435 (.n (.l 14634701252726620814) 14634701252726620814 (.l 14650772666829851496)))) 14650772666829851496 (.n (.n (.n (.l 14662735962992903443) 14662735962992903443 (.l 14682227046122538542)) 14682227046122538542 (.n (.l 14713921390190986554) 14713921390190986554 (.l 14730422951010402914))) 14730422951010402914 (.n (.n (.l 14730978030921168523) 14730978030921168523 (.l 14753114109737854496)) 14753114109737854496 (.n (.l 14753577129017991746) 14753577129017991746 (.l 14763540993197058657))))) 14763540993197058657 (.n (.n (.n (.l 14788844869382874905) 14788844869382874905 (.n (.l 14805664502075357796) 14805664502075357796 (.l 14831418187252579887))) 14831418187252579887 (.n (.n (.l 14839679000167494274) 14839679000167494274 (.l 14840053345366148945)) 14840053345366148945 (.n (.l 14842700321910822127) 14842700321910822127 (.l 14847351857178732629)))) 14847351857178732629 (.n (.n (.n (.l 14851957606253905633) 14851957606253905633 (.l 14890467521209434441)) 14890467521209434441 (.n (.l 14898975436876061984) 14898975436876061984 (.l 14924749826844503432))) 14924749826844503432 (.n (.n (.l 14945038541827072569) 14945038541827072569 (.l 14951729531295538423)) 14951729531295538423 (.n (.l 14992095241096451309) 14992095241096451309 (.l 14996319368497692557))))))) 14996319368497692557 (.n (.n (.n (.n (.n (.l 15007738197014373930) 15007738197014373930 (.n (.l 15026484084387242458) 15026484084387242458 (.l 15030460345424856298))) 15030460345424856298 (.n (.n (.l 15033782596199826142) 15033782596199826142 (.l 15041660458268085700)) 15041660458268085700 (.n (.l 15043159731822249345) 15043159731822249345 (.l 15078542432710911020)))) 15078542432710911020 (.n (.n (.n (.l 15115912707141017937) 15115912707141017937 (.l 15131508628307739546)) 15131508628307739546 (.n (.l 15159631695287770648) 15159631695287770648 (.l 15164509674211658050))) 15164509674211658050 (.n (.n (.l 15167377356830459578) 15167377356830459578 (.l 15188058163861489826)) 15188058163861489826 (.n (.l 15213282003902927803) 15213282003902927803 (.l 15277712762662572081))))) 15277712762662572081 (.n (.n (.n (.l 15326849288157212699) 15326849288157212699 (.n (.l 15347252960879600295) 15347252960879600295 (.l 15362144199095987902))) 15362144199095987902 (.n (.n (.l 15374446933958209136) 15374446933958209136 (.l 15381609233267000096)) 15381609233267000096 (.n (.l 15412830321715580940) 15412830321715580940 (.l 15453800078736889505)))) 15453800078736889505 (.n (.n (.n (.l 15458678057660776907) 15458678057660776907 (.l 15459337974974124108)) 15459337974974124108 (.n (.l 15462264805104262112) 15462264805104262112 (.l 15480673941862621839))) 15480673941862621839 (.n (.n (.l 15541520834509751224) 15541520834509751224 (.l 15542154269039808510)) 15542154269039808510 (.n (.l 15547315098025747123) 15547315098025747123 (.l 15566185729322006405)))))) 15566185729322006405 (.n (.n (.n (.n (.l 15588588761248060849) 15588588761248060849 (.n (.l 15608297583879942150) 15608297583879942150 (.l 15616579211562747910))) 15616579211562747910 (.n (.n (.l 15706074398930685285) 15706074398930685285 (.l 15710547491565793329)) 15710547491565793329 (.n (.l 15728585008060902023) 15728585008060902023 (.l 15778391111712834228)))) 15778391111712834228 (.n (.n (.n (.l 15824406338798206480) 15824406338798206480 (.l 15843382326912933326)) 15843382326912933326 (.n (.l 15846815695958401713) 15846815695958401713 (.l 15881204539249192862))) 15881204539249192862 (.n (.n (.l 15888503051061776546) 15888503051061776546 (.l 15906014753730154539)) 15906014753730154539 (.n (.l 15953634257983121250) 15953634257983121250 (.l 15966716326708577428))))) 15966716326708577428 (.n (.n (.n (.l 16004395230966068426) 16004395230966068426 (.n (.l 16029619071007506403) 16029619071007506403 (.l 16041077411225313471))) 16041077411225313471 (.n (.n (.l 16047104258814664882) 16047104258814664882 (.l 16050334695568396977)) 16050334695568396977 (.n (.l 16144532865808614102) 16144532865808614102 (.l 16155313554656232506)))) 16155313554656232506 (.n (.n (.n (.l 16163590027984178895) 16163590027984178895 (.l 16164570838999316012)) 16164570838999316012 (.n (.l 16178481266200566502) 16178481266200566502 (.l 16178921709099405251))) 16178921709099405251 (.n (.n (.l 16186220220911988935) 16186220220911988935 (.l 16212792236295217914)) 16212792236295217914 (.n (.l 16229167388820159540) 16229167388820159540 (.l 16276919522025402364)))))))) 16276919522025402364 (.n (.n (.n (.n (.n (.n (.l 16306758639931026352) 16306758639931026352 (.n (.l 16320059413250247166) 16320059413250247166 (.l 16337946255672673558))) 16337946255672673558 (.n (.n (.l 16365333444937625017) 16365333444937625017 (.l 16382522796426585005)) 16382522796426585005 (.n (.l 16391155665456321399) 16391155665456321399 (.l 16411664585453791971)))) 16411664585453791971 (.n (.n (.n (.l 16420906184183956809) 16420906184183956809 (.l 16431494419548723905)) 16431494419548723905 (.n (.l 16442311774262648761) 16442311774262648761 (.l 16457758411433297752))) 16457758411433297752 (.n (.n (.l 16472649649649685359) 16472649649649685359 (.l 16483618835552718415)) 16483618835552718415 (.n (.l 16502837858379612763) 16502837858379612763 (.l 16520792356850761228))))) 16520792356850761228 (.n (.n (.n (.l 16526884558670371929) 16526884558670371929 (.n (.l 16532941009771870577) 16532941009771870577 (.l 16561025535597535670))) 16561025535597535670 (.n (.n (.l 16564219892279724442) 16564219892279724442 (.l 16583305462922852427)) 16583305462922852427 (.n (.l 16604475809781238741) 16604475809781238741 (.l 16606569271778212098)))) 16606569271778212098 (.n (.n (.n (.l 16646477897313697309) 16646477897313697309 (.l 16650069551521416622)) 16650069551521416622 (.n (.l 16655735181656780815) 16655735181656780815 (.l 16664960789737804229))) 16664960789737804229 (.n (.n (.l 16691756906624791455) 16691756906624791455 (.l 16706648144841179062)) 16706648144841179062 (.n (.l 16710658122149029067) 16710658122149029067 (.l 16718623354034169198)))))) 16718623354034169198 (.n (.n (.n (.n (.l 16727564473700254606) 16727564473700254606 (.n (.l 16745482909346829970) 16745482909346829970 (.l 16745692187340238467))) 16745692187340238467 (.n (.n (.l 16746652517216834281) 16746652517216834281 (.l 16821436781570527832)) 16821436781570527832 (.n (.l 16854531343039828664) 16854531343039828664 (.l 16857414478329892071)))) 16857414478329892071 (.n (.n (.n (.l 16859928330771157502) 16859928330771157502 (.l 16861405596159661117)) 16861405596159661117 (.n (.l 16866671762672975577) 16866671762672975577 (.l 16881022632773064816))) 16881022632773064816 (.n (.n (.l 16882320008113786202) 16882320008113786202 (.l 16908559471494633630)) 16908559471494633630 (.n (.l 16933359846258587561) 16933359846258587561 (.l 16962634041801550201))))) 16962634041801550201 (.n (.n (.n (.l 16972711025873991972) 16972711025873991972 (.n (.l 16988193700905252729) 16988193700905252729 (.l 16991705767329475604))) 16991705767329475604 (.n (.n (.l 17007099869164783121) 17007099869164783121 (.l 17014398380977366805)) 17014398380977366805 (.n (.l 17016627082865032432) 17016627082865032432 (.l 17055505523665270873)))) 17055505523665270873 (.n (.n (.n (.l 17056374614687155644) 17056374614687155644 (.l 17093256589129980964)) 17093256589129980964 (.n (.l 17119153951420740221) 17119153951420740221 (.l 17191059346526405727))) 17191059346526405727 (.n (.n (.l 17202772320280559770) 17202772320280559770 (.l 17209017631099231780)) 17209017631099231780 (.n (.l 17237243251288535409) 17237243251288535409 (.l 17245912211505404572))))))) 17245912211505404572 (.n (.n (.n (.n (.n (.l 17279904694714547734) 17279904694714547734 (.n (.l 17289643555801719753) 17289643555801719753 (.l 17293663897747016847))) 17293663897747016847 (.n (.n (.l 17298541876670904249) 17298541876670904249 (.l 17303753962583077144)) 17303753962583077144 (.n (.l 17317008463711478805) 17317008463711478805 (.l 17322678653586299727)))) 17322678653586299727 (.n (.n (.n (.l 17328085673612272173) 17328085673612272173 (.l 17351092673428622305)) 17351092673428622305 (.n (.l 17354197991187418599) 17354197991187418599 (.l 17381323985357056652))) 17381323985357056652 (.n (.n (.l 17424501558316153216) 17424501558316153216 (.l 17481104968610800576)) 17481104968610800576 (.n (.l 17534960421138747798) 17534960421138747798 (.l 17541016872240246446))))) 17541016872240246446 (.n (.n (.n (.l 17562029254444817067) 17562029254444817067 (.n (.l 17580899885741076349) 17580899885741076349 (.l 17593495504264117565))) 17593495504264117565 (.n (.n (.l 17595965612490163942) 17595965612490163942 (.l 17610856850706551549)) 17610856850706551549 (.n (.l 17695136029171995384) 17695136029171995384 (.l 17696836496728651188)))) 17696836496728651188 (.n (.n (.n (.l 17709200792838442686) 17709200792838442686 (.l 17749696913363166161)) 17749696913363166161 (.n (.l 17792438667241855491) 17792438667241855491 (.l 17808172806368943608))) 17808172806368943608 (.n (.n (.l 17843566866879476098) 17843566866879476098 (.l 17891934476156333887)) 17891934476156333887 (.n (.l 17913632407214156776) 17913632407214156776 (.l 17984519470829472730)))))) 17984519470829472730 (.n (.n (.n (.n (.l 18003461287016085987) 18003461287016085987 (.n (.l 18005854886256736709) 18005854886256736709 (.l 18008482586910489186))) 18008482586910489186 (.n (.n (.l 18019109387385138370) 18019109387385138370 (.l 18045148642119460820)) 18045148642119460820 (.n (.l 18072763484287633455) 18072763484287633455 (.l 18081226657462710211)))) 18081226657462710211 (.n (.n (.n (.l 18110000964851595447) 18110000964851595447 (.l 18114878943775482849)) 18114878943775482849 (.n (.l 18149378470462154547) 18149378470462154547 (.l 18179930553887319450))) 18179930553887319450 (.n (.n (.l 18186300371829460187) 18186300371829460187 (.l 18189892026037179500)) 18189892026037179500 (.n (.l 18217093493567607649) 18217093493567607649 (.l 18231579381140554333))))) 18231579381140554333 (.n (.n (.n (.l 18233185084907057146) 18233185084907057146 (.n (.l 18277752098630330363) 18277752098630330363 (.l 18297622230443425094))) 18297622230443425094 (.n (.n (.l 18301739760215392716) 18301739760215392716 (.l 18306199756760701575)) 18306199756760701575 (.n (.l 18306617739139280118) 18306617739139280118 (.l 18312513468659812701)))) 18312513468659812701 (.n (.n (.n (.l 18323762752770367226) 18323762752770367226 (.l 18383076188213899542)) 18383076188213899542 (.n (.l 18397236952845654949) 18397236952845654949 (.l 18412302679594742542))) 18412302679594742542 (.n (.n (.l 18427193917811130149) 18427193917811130149 (.l 18435620340603026753)) 18435620340603026753 (.n (.l 18440181551810446489) 18440181551810446489 (.l 18443053597864056212)))))))))))
def trS : Tr := (.n (.n (.n (.n (.l 32063144355221885) 32063144355221885 (.l 41320428698305391)) 41320428698305391 (.n (.l 1040139006823597754) 1040139006823597754 (.l 1049396291166681260))) 1049396291166681260 (.n (.n (.l 1571885618870984763) 1571885618870984763 (.l 2579961481339360632)) 2579961481339360632 (.n (.l 12043283666062629235) 12043283666062629235 (.l 13051359528531005104)))) 13051359528531005104 (.n (.n (.n (.l 13573848856235308607) 13573848856235308607 (.l 13583106140578392113)) 13583106140578392113 (.n (.l 14581924718703684476) 14581924718703684476 (.l 14591182003046767982))) 14591182003046767982 (.n (.n (.l 15113671330751071485) 15113671330751071485 (.l 16121747193219447354)) 16121747193219447354 (.n (.l 16948242027892094129) 16948242027892094129 (.l 17956317890360469998)))))
def trD : Tr := (.n (.n (.n (.n (.n (.n (.n (.n (.l 9288869919081186) 9288869919081186 (.l 123549176157736624)) 123549176157736624 (.n (.l 138887190667792259) 138887190667792259 (.l 144748145802893334))) 144748145802893334 (.n (.n (.l 329160538844455368) 329160538844455368 (.l 329901267546148828)) 329901267546148828 (.n (.l 401846768366711343) 401846768366711343 (.l 407113294497009222)))) 407113294497009222 (.n (.n (.n (.l 432694956669928219) 432694956669928219 (.l 476385690093185495)) 476385690093185495 (.n (.l 555348845078046467) 555348845078046467 (.l 573929694992466531))) 573929694992466531 (.n (.n (.l 617554937050758586) 617554937050758586 (.l 752893749777864203)) 752893749777864203 (.n (.l 809757234541558620) 809757234541558620 (.l 833815282073803976))))) 833815282073803976 (.n (.n (.n (.n (.l 1029093028589765347) 1029093028589765347 (.l 1031360186773621712)) 1031360186773621712 (.n (.l 1102041385903020939) 1102041385903020939 (.l 1139495083481422849))) 1139495083481422849 (.n (.n (.l 1152686221429672629) 1152686221429672629 (.l 1212307290554548554)) 1212307290554548554 (.n (.l 1299586290602838675) 1299586290602838675 (.l 1471914154632959736)))) 1471914154632959736 (.n (.n (.n (.l 1516266335207965242) 1516266335207965242 (.l 1569257479355533502)) 1569257479355533502 (.n (.l 1607951389945072793) 1607951389945072793 (.l 1699378762254647101))) 1699378762254647101 (.n (.n (.l 1791063816991754652) 1791063816991754652 (.l 1960892173290275770)) 1960892173290275770 (.n (.l 2094406211334650771) 2094406211334650771 (.l 2173883705456599159)))))) 2173883705456599159 (.n (.n (.n (.n (.n (.l 2232247599465362602) 2232247599465362602 (.l 2239358610286033279)) 2239358610286033279 (.n (.l 2285765102688510833) 2285765102688510833 (.l 2352779981154035398))) 2352779981154035398 (.n (.n (.l 2395273329625082615) 2395273329625082615 (.l 2477191766525212749)) 2477191766525212749 (.n (.l 2486423034798646884) 2486423034798646884 (.l 2507584714115250242)))) 2507584714115250242 (.n (.n (.n (.l 2627891698855886841) 2627891698855886841 (.l 2811004125902568700)) 2811004125902568700 (.n (.l 2876015968615281761) 2876015968615281761 (.l 3252947572733948835))) 3252947572733948835 (.n (.n (.l 3289472228823307612) 3289472228823307612 (.l 3314902147960446838)) 3314902147960446838 (.n (.l 3650734979740491344) 3650734979740491344 (.l 3716547978334597423))))) 3716547978334597423 (.n (.n (.n (.n (.l 3762616376972403018) 3762616376972403018 (.l 3938296076237559393)) 3938296076237559393 (.n (.l 4325709860064176895) 4325709860064176895 (.l 4393420263333435679))) 4393420263333435679 (.n (.n (.l 4396621106240224795) 4396621106240224795 (.l 4432344737021122334)) 4432344737021122334 (.n (.l 4450925586935542398) 4450925586935542398 (.l 4517912157554976929)))) 4517912157554976929 (.n (.n (.n (.l 4589777549525175545) 4589777549525175545 (.l 4633713533777710805)) 4633713533777710805 (.n (.l 4643482203493478680) 4643482203493478680 (.l 4737247951603183656))) 4737247951603183656 (.n (.n (.l 4846569686326066637) 4846569686326066637 (.l 4874988323906831607)) 4874988323906831607 (.n (.l 4973220052433342909) 4973220052433342909 (.l 5029682113372748496))))))) 5029682113372748496 (.n (.n (.n (.n (.n (.n (.l 5163382722113134825) 5163382722113134825 (.l 5237629358274608432)) 5237629358274608432 (.n (.l 5422557308605371684) 5422557308605371684 (.l 5451688155354081821))) 5451688155354081821 (.n (.n (.l 5479488572457027534) 5479488572457027534 (.l 5626958974535035645)) 5626958974535035645 (.n (.l 5645539824449455709) 5645539824449455709 (.l 5736689529623019978)))) 5736689529623019978 (.n (.n (.n (.l 5877312997034955570) 5877312997034955570 (.l 5882038628470017468)) 5882038628470017468 (.n (.l 5883173952170056645) 5883173952170056645 (.l 5993920025701929142))) 5993920025701929142 (.n (.n (.l 6024783399112963681) 6024783399112963681 (.l 6060934904167453707)) 6060934904167453707 (.n (.l 6228998298577002675) 6228998298577002675 (.l 6296263577774961771))))) 6296263577774961771 (.n (.n (.n (.n (.l 6443733979852969882) 6443733979852969882 (.l 6479376004821643630)) 6479376004821643630 (.n (.l 6508625617728963539) 6508625617728963539 (.l 6543911605219288716))) 6543911605219288716 (.n (.n (.l 6611481460048582227) 6611481460048582227 (.l 6683426960869144742)) 6683426960869144742 (.n (.l 6719711490518975398) 6719711490518975398 (.l 6765826574894955983)))) 6765826574894955983 (.n (.n (.n (.l 6769785993140785023) 6769785993140785023 (.l 6812137709048505679)) 6812137709048505679 (.n (.l 6889733848359597705) 6889733848359597705 (.l 6912310997441992650))) 6912310997441992650 (.n (.n (.l 6917256395218793134) 6917256395218793134 (.l 6956339846740919719)) 6956339846740919719 (.n (.l 6993268266185070556) 6993268266185070556 (.l 7037204250437605816)))))) 7037204250437605816 (.n (.n (.n (.n (.n (.l 7080875213078267755) 7080875213078267755 (.l 7133936439823919701)) 7133936439823919701 (.n (.l 7147003213291045562) 7147003213291045562 (.l 7317048866870601560))) 7317048866870601560 (.n (.n (.l 7354164271318847755) 7354164271318847755 (.l 7360025226453948830)) 7360025226453948830 (.n (.l 7459003538266967122) 7459003538266967122 (.l 7472882137048411083)))) 7472882137048411083 (.n (.n (.n (.l 7544827637868973598) 7544827637868973598 (.l 7550688593004074673)) 7550688593004074673 (.n (.l 7703367269779958790) 7703367269779958790 (.l 7756530453935970773))) 7756530453935970773 (.n (.n (.l 7850837671857966901) 7850837671857966901 (.l 7977784416653196590)) 7977784416653196590 (.n (.l 8094406630427987825) 8094406630427987825 (.l 8101575186346853988))))) 8101575186346853988 (.n (.n (.n (.n (.l 8125254818731204701) 8125254818731204701 (.l 8135774028599478745)) 8135774028599478745 (.n (.l 8166943522201859610) 8166943522201859610 (.l 8167810228454422800))) 8167810228454422800 (.n (.n (.l 8186391078368842864) 8186391078368842864 (.l 8239755729274985315)) 8239755729274985315 (.n (.l 8240891052975024492) 8240891052975024492 (.l 8246637267424677208)))) 8246637267424677208 (.n (.n (.n (.l 8351637126506896989) 8351637126506896989 (.l 8365355133154240536)) 8365355133154240536 (.n (.l 8437300633974803051) 8437300633974803051 (.l 8521465482805418107))) 8521465482805418107 (.n (.n (.l 8564767946779787646) 8564767946779787646 (.l 8570628901914888721)) 8570628901914888721 (.n (.l 8582035177759367103) 8582035177759367103 (.l 8712238348857795757)))))))) 8712238348857795757 (.n (.n (.n (.n (.n (.n (.n (.l 8765147604806048962) 8765147604806048962 (.l 8799931919801175616)) 8799931919801175616 (.n (.l 8904867152615825036) 8904867152615825036 (.l 9028247024705308198))) 9028247024705308198 (.n (.n (.l 9068158023630392579) 9068158023630392579 (.l 9187643495470445843)) 9187643495470445843 (.n (.l 9206224345384865907) 9206224345384865907 (.l 9250160329637401167)))) 9250160329637401167 (.n (.n (.n (.l 9259696038185799363) 9259696038185799363 (.l 9299553200548447551)) 9299553200548447551 (.n (.l 9353694747462874018) 9353694747462874018 (.l 9360831302885976084))) 9360831302885976084 (.n (.n (.l 9407166440263807474) 9407166440263807474 (.l 9425747290178227538)) 9425747290178227538 (.n (.l 9454635690937088775) 9454635690937088775 (.l 9457240942885617099))))) 9457240942885617099 (.n (.n (.n (.n (.l 9479264793401375769) 9479264793401375769 (.l 9585467920048373879)) 9585467920048373879 (.n (.l 9604711344963625210) 9604711344963625210 (.l 9679922725511511820))) 9679922725511511820 (.n (.n (.l 9821391389568751777) 9821391389568751777 (.l 9826407148058548487)) 9826407148058548487 (.n (.l 10004503816615433636) 10004503816615433636 (.l 10236245448217719765)))) 10236245448217719765 (.n (.n (.n (.l 10241697129407051746) 10241697129407051746 (.l 10342912845621340920)) 10342912845621340920 (.n (.l 10446447263446813771) 10446447263446813771 (.l 10477940916154203332))) 10477940916154203332 (.n (.n (.l 10490383247699349031) 10490383247699349031 (.l 10665239366398028666)) 10665239366398028666 (.n (.l 10738556945011865159) 10738556945011865159 (.l 10921669372058547018)))))) 10921669372058547018 (.n (.n (.n (.n (.n (.l 11025203789884019869) 11025203789884019869 (.l 11160358401078979078)) 11160358401078979078 (.n (.l 11428584504908196041) 11428584504908196041 (.l 11491995945369271239))) 11491995945369271239 (.n (.n (.l 11519209550777041831) 11519209550777041831 (.l 11586919954046300615)) 11586919954046300615 (.n (.l 11590255422887890833) 11590255422887890833 (.l 11685939339666614899)))) 11685939339666614899 (.n (.n (.n (.l 11710876498704298583) 11710876498704298583 (.l 11827213224490575741)) 11827213224490575741 (.n (.l 12166719743146207845) 12166719743146207845 (.l 12253110917062918831))) 12253110917062918831 (.n (.n (.l 12282337411586452027) 12282337411586452027 (.l 12398461374748493974)) 12398461374748493974 (.n (.l 12521337020892135794) 12521337020892135794 (.l 12648755016453443070))))) 12648755016453443070 (.n (.n (.n (.n (.l 12731352157178655913) 12731352157178655913 (.l 12831867443500124929)) 12831867443500124929 (.n (.l 12930189220335884914) 12930189220335884914 (.l 13035018691981748017))) 13035018691981748017 (.n (.n (.l 13047406767397389382) 13047406767397389382 (.l 13076673642882921581)) 13076673642882921581 (.n (.l 13083885298589321227) 13083885298589321227 (.l 13187419716414794078)))) 13187419716414794078 (.n (.n (.n (.l 13311474456858388032) 13311474456858388032 (.l 13949852052420470055)) 13949852052420470055 (.n (.l 13971710939651020231) 13971710939651020231 (.l 13988823439836238253))) 13988823439836238253 (.n (.n (.l 14043656440471582746) 14043656440471582746 (.l 14121087001105339872)) 14121087001105339872 (.n (.l 14259570092541768988) 14259570092541768988 (.l 14274374903791132691))))))) 14274374903791132691 (.n (.n (.n (.n (.n (.n (.l 14375986822930421224) 14375986822930421224 (.l 14538357726168338927)) 14538357726168338927 (.n (.l 14685828128246347038) 14685828128246347038 (.l 14783978892656407534))) 14783978892656407534 (.n (.n (.l 14839563075352322044) 14839563075352322044 (.l 14969792361331284103)) 14969792361331284103 (.n (.l 14994083370030899138) 14994083370030899138 (.l 15017960485108174258)))) 15017960485108174258 (.n (.n (.n (.l 15041179849822399978) 15041179849822399978 (.l 15070030614729606199)) 15070030614729606199 (.n (.l 15187664272369436645) 15187664272369436645 (.l 15191540459234246073))) 15191540459234246073 (.n (.n (.l 15211067151460404905) 15211067151460404905 (.l 15237387499930250080)) 15237387499930250080 (.n (.l 15262309473860116101) 15262309473860116101 (.l 15295074877059718924))))) 15295074877059718924 (.n (.n (.n (.n (.l 15325720914321191299) 15325720914321191299 (.l 15360443212914724546)) 15360443212914724546 (.n (.l 15465674714120130438) 15465674714120130438 (.l 15470173768002708879))) 15470173768002708879 (.n (.n (.l 15648787141166812297) 15648787141166812297 (.l 15764128592627753657)) 15764128592627753657 (.n (.l 15814032515935937108) 15814032515935937108 (.l 15932315591336261797)))) 15932315591336261797 (.n (.n (.n (.l 15961502918013945219) 15961502918013945219 (.l 16015209000452231112)) 16015209000452231112 (.n (.l 16129860496036079533) 16129860496036079533 (.l 16133926866181794440))) 16133926866181794440 (.n (.n (.l 16205872367002356955) 16205872367002356955 (.l 16277608768357837928)) 16277608768357837928 (.n (.l 16346540540641206100) 16346540540641206100 (.l 16381143186183310779)))))) 16381143186183310779 (.n (.n (.n (.n (.n (.l 16425079170435846039) 16425079170435846039 (.l 16490873741271295112)) 16490873741271295112 (.n (.l 16529652967687887959) 16529652967687887959 (.l 16637358163818331779))) 16637358163818331779 (.n (.n (.l 16675433192935765964) 16675433192935765964 (.l 16681294148070867039)) 16681294148070867039 (.n (.l 16778967610761238815) 16778967610761238815 (.l 16784828565896339890)))) 16784828565896339890 (.n (.n (.n (.l 16822903595013774075) 16822903595013774075 (.l 16898784207446142389)) 16898784207446142389 (.n (.l 17101738530675823984) 17101738530675823984 (.l 17188470348801463899))) 17188470348801463899 (.n (.n (.l 17225812675913171003) 17225812675913171003 (.l 17369964634505040947)) 17369964634505040947 (.n (.l 17370361284341777681) 17370361284341777681 (.l 17373283077991179114))))) 17373283077991179114 (.n (.n (.n (.n (.l 17473895702167250532) 17473895702167250532 (.l 17517831686419785792)) 17517831686419785792 (.n (.l 17567906189041595417) 17567906189041595417 (.l 17671440606867068268))) 17671440606867068268 (.n (.n (.l 17715376591119603528) 17715376591119603528 (.l 17724230587377515019)) 17724230587377515019 (.n (.l 17927921252718078394) 17927921252718078394 (.l 17932056635724730095)))) 17932056635724730095 (.n (.n (.n (.l 17991536723430082142) 17991536723430082142 (.l 17992456691206731982)) 17992456691206731982 (.n (.l 18115169062771411954) 18115169062771411954 (.l 18139007125508090253))) 18139007125508090253 (.n (.n (.l 18187806839799415839) 18187806839799415839 (.l 18246512649181757236)) 18246512649181757236 (.n (.l 18307164827381586366) 18307164827381586366 (.l 18375635481730034574)))))))))

theorem k_trV : (VQ.all fun v => memT trV v) = true := by decide +kernel
theorem k_trS : ((B1.flatMap fun x => B1.map fun y => (al x + M64 - be y) % M64).all fun v => memT trS v) = true := by decide +kernel
theorem k_trD : (dayL.all fun t => memT trD (hU t)) = true := by decide +kernel
theorem k_dayH : nd 70 (dayL.map hU) = true := by decide +kernel
noncomputable def finG (c m q o acc : Nat) (k : Nat → Bool) : Bool := fz (Nat.mod (Nat.add acc c) m) fun a => Bool.rec (k a) (k o) (Nat.beq a q)
theorem finG_eq (c m q o acc : Nat) (k : Nat → Bool) : finG c m q o acc k = k (if (acc + c) % m = q then o else (acc + c) % m) := by
  unfold finG
  rw [fz_eq]
  have e : Nat.mod (Nat.add acc c) m = (acc + c) % m := rfl
  rw [e]
  generalize (acc + c) % m = a
  cases e : Nat.beq a q with
  | true =>
    rw [if_pos (Nat.eq_of_beq_eq_true e)]
  | false =>
    have c : ¬ a = q := fun z => by
      have : Nat.beq a q = true := by rw [z]; exact Nat.beq_refl _
      rw [this] at e
      cases e
    rw [if_neg c]
noncomputable def finK (acc : Nat) (k : Nat → Bool) : Bool := finG (nat_lit 2870177450013471924) (nat_lit 18446744073709551616) (nat_lit 18446744073709551615) (nat_lit 1546275796) acc k
theorem finK_eq (acc : Nat) (k : Nat → Bool) : finK acc k = k (finN 2870177450013471924 acc) := finG_eq 2870177450013471924 18446744073709551616 18446744073709551615 1546275796 acc k
noncomputable def noV (x : Nat) : Bool := fz (Nat.mod x (nat_lit 18446744073709551616)) fun y => notB (memT trV y)
theorem noV_ok {x : Nat} (h : noV x = true) : x % M64 ∉ VQ := fun hm => by
  unfold noV at h
  rw [fz_eq, notB_eq] at h
  have := List.all_eq_true.mp k_trV _ hm
  have h' : (!memT trV (x % M64)) = true := h
  rw [this] at h'
  cases h'
def b1A : List Nat := B1.map al
def b1B : List Nat := B1.map be
noncomputable def andB (a b : Bool) : Bool := Bool.rec false b a
theorem andB_ok {a b : Bool} (h : andB a b = true) : a = true ∧ b = true := by
  cases a with
  | false => cases h
  | true => exact ⟨rfl, h⟩
noncomputable def okH (h : Nat) : Bool := fz (Nat.mod (Nat.mul h (nat_lit 14029467366897019727)) (nat_lit 18446744073709551616)) fun bb => fz (psiK (Nat.mod (Nat.add (nat_lit 2870177450012600261) bb) (nat_lit 18446744073709551616))) fun aa =>
  andB (allN (fun x => noV (Nat.add aa x)) b1B) (andB (allN (fun x => noV (Nat.add x bb)) b1A) (fz (Nat.mod (Nat.sub (Nat.add aa (nat_lit 18446744073709551616)) bb) (nat_lit 18446744073709551616)) fun y => notB (memT trS y)))
theorem okH_ok {u : T} (h : okH (hU u) = true) : (∀ x ∈ B1, gP u x ∉ VQ ∧ gP x u ∉ VQ) ∧ ∀ x ∈ B1, ∀ y ∈ B1, gP u x ≠ gP y u := by
  unfold okH at h
  rw [fz_eq, fz_eq, fz_eq] at h
  have eb : Nat.mod (Nat.mul (hU u) (nat_lit 14029467366897019727)) (nat_lit 18446744073709551616) = be u := rfl
  rw [eb] at h
  have ea : psiK (Nat.mod (Nat.add (nat_lit 2870177450012600261) (be u)) (nat_lit 18446744073709551616)) = al u := by
    rw [psiK_eq]
    show psiN ((2870177450012600261 + be u) % M64) = psiN ((2870177450012600261 + hU u * 14029467366897019727) % M64)
    unfold be
    rw [Nat.add_mod_mod]
  rw [ea] at h
  obtain ⟨h1, h⟩ := andB_ok h
  obtain ⟨h2, h3⟩ := andB_ok h
  refine ⟨fun x hx => ⟨noV_ok (allN_ok h1 (be x) (List.mem_map.mpr ⟨x, hx, rfl⟩)), noV_ok (allN_ok h2 (al x) (List.mem_map.mpr ⟨x, hx, rfl⟩))⟩, fun x hx y hy e => ?_⟩
  have k := List.all_eq_true.mp k_trS ((al y + M64 - be x) % M64) (List.mem_flatMap.mpr ⟨y, hy, List.mem_map.mpr ⟨x, hx, rfl⟩⟩)
  have ee : (al y + M64 - be x) % M64 = (al u + M64 - be u) % M64 := by
    have l1 := al_lt u
    have l2 := be_lt x
    have l3 := al_lt y
    have l4 := be_lt u
    unfold gP at e
    unfold M64 at *
    omega
  rw [ee] at k
  rw [notB_eq] at h3
  have h3' : (!memT trS ((al u + M64 - be u) % M64)) = true := h3
  rw [k] at h3'
  cases h3'
theorem be_uni {x y : T} (hx : x ∈ B2) (hy : y ∈ B2) (e : be x = be y) : x = y := inj_on (nd_ok 70 _ k_be) hx hy e
theorem al_uni {x y : T} (hx : x ∈ B2) (hy : y ∈ B2) (e : al x = al y) : x = y := inj_on (nd_ok 70 _ k_al) hx hy e
theorem hash_one {u : T} (h : okH (hU u) = true) : HashD (DD [u] []) := by
  obtain ⟨h1, h2⟩ := okH_ok h
  have ed : DD [u] [] = sdD u := by
    unfold DD
    simp
  have mem : ∀ {p : T × T}, p ∈ DD [u] [] → (∃ x ∈ B1, p = (u, x)) ∨ ∃ x ∈ B1, p = (x, u) := fun {p} hp => by
    rw [ed] at hp
    unfold sdD at hp
    rcases List.mem_append.mp hp with hp | hp
    · obtain ⟨x, hx, e⟩ := List.mem_map.mp hp
      exact .inl ⟨x, hx, e.symm⟩
    · obtain ⟨x, hx, e⟩ := List.mem_map.mp hp
      exact .inr ⟨x, hx, e.symm⟩
  refine ⟨fun p hp => ?_, fun p hp q hq e => ?_⟩
  · rcases mem hp with ⟨x, hx, rfl⟩ | ⟨x, hx, rfl⟩
    · exact (h1 x hx).1
    · exact (h1 x hx).2
  · rcases mem hp with ⟨x, hx, rfl⟩ | ⟨x, hx, rfl⟩ <;> rcases mem hq with ⟨y, hy, rfl⟩ | ⟨y, hy, rfl⟩
    · have e' : gP u x = gP u y := e
      rw [be_uni (b1_b2 hx) (b1_b2 hy) (by
        have l1 := al_lt u
        have l2 := be_lt x
        have l3 := be_lt y
        unfold gP at e'
        unfold M64 at *
        omega)]
    · exact absurd e (h2 x hx y hy)
    · exact absurd e.symm (h2 y hy x hx)
    · have e' : gP x u = gP y u := e
      rw [al_uni (b1_b2 hx) (b1_b2 hy) (by
        have l1 := al_lt x
        have l2 := be_lt u
        have l3 := al_lt y
        unfold gP at e'
        unfold M64 at *
        omega)]
/-! ### all that can stand behind a drawn game that lasts up to 3 -/
def sideL : List (List T) := [] :: ((B2.map fun a => [a]) ++ (B2.flatMap fun a => (B2.filter fun b => T.lt a b).map fun b => [a, b]))
def sideO : List (List T) := sideL.filter fun l => !l.all (inL B1)
def sideB : List (List T) := sideL.filter fun l => l.all (inL B1)
def sideH : List Nat := sideL.map fun l => hU (.n l)
def sideOH : List Nat := sideO.map fun l => hU (.n l)
def sideBH : List Nat := sideB.map fun l => hU (.n l)
noncomputable def allHere (la lb : List Nat) : Bool := allN (fun a => fz (psiK (Nat.mod (Nat.add (nat_lit 2870177450012600261) (Nat.mul a (nat_lit 14029467366897019727))) (nat_lit 18446744073709551616))) fun s => allN (fun b => finK (psiK (Nat.mod (Nat.add s (Nat.mul b (nat_lit 14029467366897019727))) (nat_lit 18446744073709551616))) okH) lb) la
theorem hU_gm (l r : List T) : hU (T.gm l r) = finN 2870177450013471924 (stepN (stepN 2870177450012600261 (hU (.n l))) (hU (.n r))) := by
  unfold T.gm
  rw [hU, hUs, hUs, hUs, List.foldl_cons, List.foldl_cons, List.foldl_nil, List.length_cons, List.length_cons, List.length_nil]
  generalize stepN (stepN 2870177450012600261 (hU (.n l))) (hU (.n r)) = x
  rw [show (0 + 1 + 1) ^^^ 2870177450013471926 = 2870177450013471924 by decide]
theorem allHere_ok {la lb : List (List T)} (h : allHere (la.map fun l => hU (.n l)) (lb.map fun l => hU (.n l)) = true) {l r : List T} (hl : l ∈ la) (hr : r ∈ lb) : okH (hU (T.gm l r)) = true := by
  unfold allHere at h
  have h1 := allN_ok h (hU (.n l)) (List.mem_map.mpr ⟨l, hl, rfl⟩)
  try dsimp only at h1
  rw [fz_eq] at h1
  have h2 := allN_ok h1 (hU (.n r)) (List.mem_map.mpr ⟨r, hr, rfl⟩)
  try dsimp only at h2
  rw [finK_eq] at h2
  rw [hU_gm]
  exact h2
theorem side_mem {l : List T} (ha : T.Asc l) (hl : l.length ≤ 2) (hm : ∀ x ∈ l, x ∈ B2) : l ∈ sideL := by
  match l, ha, hl, hm with
  | [], _, _, _ => exact List.mem_cons_self
  | [a], _, _, hm => exact List.mem_cons_of_mem _ (List.mem_append_left _ (List.mem_map.mpr ⟨a, hm a List.mem_cons_self, rfl⟩))
  | [a, b], ha, _, hm =>
    refine List.mem_cons_of_mem _ (List.mem_append_right _ (List.mem_flatMap.mpr ⟨a, hm a List.mem_cons_self, List.mem_map.mpr ⟨b, List.mem_filter.mpr ⟨hm b (List.mem_cons_of_mem _ List.mem_cons_self), ?_⟩, rfl⟩⟩))
    exact (List.pairwise_cons.mp ha).1 b List.mem_cons_self
  | _ :: _ :: _ :: _, _, hl, _ => simp at hl
theorem k_sideB : (sideB.all fun l => sideB.all fun r => inL dayL (T.gm l r)) = true := by decide +kernel
theorem k_b2blk : (B2.all fun t => decide (blk t ≤ 80)) = true := by decide +kernel
theorem sides_blk {l : List T} (hl : l.length ≤ 2) (hm : ∀ x ∈ l, x ∈ B2) : blks l ≤ 180 := by
  have b : ∀ x ∈ l, blk x ≤ 80 := fun x hx => of_decide_eq_true (List.all_eq_true.mp k_b2blk x (hm x hx))
  match l, hl, b with
  | [], _, _ => rw [blks]; omega
  | [x], _, b => have := b x (by simp); rw [blks, blks]; omega
  | [x, y], _, b => have := b x (by simp); have := b y (by simp); rw [blks, blks, blks]; omega
  | _ :: _ :: _ :: _, hl, _ => simp at hl
/-! ### the games themselves, as keys -/
theorem day_gp {t : T} (h : t ∈ dayL) : isGm 3 t = true := (day_s h).gm
theorem game_fam {w : World} {Gp : T → Prop} (L : List T) (hl : L.length ≤ 100000) (hL : ∀ t, Gp t → t ∈ L) (h : (∀ t, Gp t → isGm 4 t = true) ∨ ((∀ t, Gp t → isGm 5 t = true) ∧ ∀ t u, Gp t → Gp u → hU t = hU u → t = u)) : FamOk w (GameF Gp) := by
  refine ⟨fun d h => ?_, ?_, fun d h => ?_, fun d e' h k ek => ?_, L.map nk, ?_, fun d h => ?_⟩
  · obtain ⟨a, ha, rfl⟩ := h
    exact data_im a
  · rcases h with h | ⟨h, u⟩
    · refine .inl fun d hd => ?_
      obtain ⟨a, ha, rfl⟩ := hd
      rw [key_T, nk_depth]
      exact depth_gm 4 a (h a ha)
    · refine .inr ⟨fun d hd => ?_, fun d e hd he eh => ?_⟩
      · obtain ⟨a, ha, rfl⟩ := hd
        rw [key_T, nk_depth]
        have := depth_gm 5 a (h a ha)
        omega
      · obtain ⟨a, ha, rfl⟩ := hd
        obtain ⟨b, hb, rfl⟩ := he
        rw [key_T, key_T, hT_eq, hT_eq] at eh
        have := congrArg uI eh
        rw [u_T, u_T] at this
        rw [u a b ha hb this]
  · obtain ⟨a, ha, rfl⟩ := h
    obtain ⟨ts, e⟩ : ∃ ts, a = .n ts := by cases a; exact ⟨_, rfl⟩
    rw [e]
    exact ⟨_, by rw [T.data]⟩
  · obtain ⟨a, ha, rfl⟩ := h
    obtain ⟨c, hc, rfl⟩ := k
    rw [key_T, key_T] at ek
    rw [nk_inj _ _ ek]
  · rw [List.length_map, sizeLine_eq]
    omega
  · obtain ⟨a, ha, rfl⟩ := h
    exact List.mem_map.mpr ⟨a, hL a ha, (key_T a).symm⟩
theorem kid_of {U3 U4 : List T} (S : Shape U3 U4) {t : T} (h : GmD U3 U4 (hereV t)) {v : Int} {x : T} (hx : x ∈ opt t v) : isGm 4 (plainV x) = true := by
  have hb := gmD_bd S h
  rcases opt_or t v with k | k
  · rw [k] at hx
    exact kid_gm hb ((opt_here (.inl rfl)).mpr ⟨x, hx, rfl⟩)
  · rw [k] at hx
    exact kid_gm hb ((opt_here (.inr rfl)).mpr ⟨x, hx, rfl⟩)
end LM

set_option Elab.async false
set_option linter.all false
set_option maxRecDepth 100000
set_option maxHeartbeats 4000000
namespace LM
open PySem PySem.Spec PyProof.Rows L2 Evl
theorem k_h3a : allHere ((sideO.take 61).map fun l => hU (.n l)) sideH = true := by decide +kernel
theorem k_h3b : allHere (((sideO.drop 61).take 61).map fun l => hU (.n l)) sideH = true := by decide +kernel
end LM

set_option Elab.async false
set_option linter.all false
set_option maxRecDepth 100000
set_option maxHeartbeats 4000000
namespace LM
open PySem PySem.Spec PyProof.Rows L2 Evl
theorem k_h3c : allHere ((((sideO.drop 61).drop 61).take 61).map fun l => hU (.n l)) sideH = true := by decide +kernel
theorem k_h3d : allHere ((((sideO.drop 61).drop 61).drop 61).map fun l => hU (.n l)) sideH = true := by decide +kernel
theorem k_h3e : allHere sideBH sideOH = true := by decide +kernel
end LM

set_option Elab.async false
set_option linter.all false
set_option maxRecDepth 100000
set_option maxHeartbeats 4000000
namespace LM
open PySem PySem.Spec PyProof.Rows L2 Evl
/-! ### the told ones: runs by the kernel -/
def inB2s (l : List T) : Bool := l.all (inL B2)
def candL (G : List T) : List T := (G.map hereV ++ (G.map hereV).flatMap fun u => opt u 0 ++ opt u 1).filter fun u => !isGm 3 u
def low3 (u : T) : Bool := inB2s (opt u 0) && inB2s (opt u 1)
def c3 (G : List T) : List T := T.set ((candL G).filter low3)
def c4 (G : List T) : List T := T.set ((candL G).filter fun u => !low3 u)
def shape3 (u : T) : Bool := isGm 4 u && decide (blks (opt u 0) ≤ 180) && decide (blks (opt u 1) ≤ 180)
def shape4 (U3 : List T) (u : T) : Bool := isGm 5 u && ((opt u 0).all fun x => inL B2 x || inL U3 x) && ((opt u 1).all fun x => inL B2 x || inL U3 x) && decide (blks (opt u 0) ≤ 180) && decide (blks (opt u 1) ≤ 180) && decide ((outB (opt u 0)).length ≤ 1) && decide ((outB (opt u 1)).length ≤ 1)
noncomputable def hashB (D : List (T × T)) : Bool := ((D.map fun p => gP p.1 p.2).all noV) && nd 70 (D.map fun p => gP p.1 p.2) && decide (D.length ≤ 10000)
noncomputable def noD (h : Nat) : Bool := fz h fun y => notB (memT trD y)
noncomputable def game1B (G : List T) (t : T) : Bool := isGm 5 t && ((opt t 0).all fun x => inL G x || (isGm 3 x && inL dayL x)) && ((opt t 1).all fun x => inL G x || (isGm 3 x && inL dayL x)) && decide ((opt t 0).length ≤ 30) && decide ((opt t 1).length ≤ 30) && (!isGm 3 (hereV t) || inL dayL (hereV t)) && noD (hU t)
def rawG (raw : List T) : List T := T.set (raw.filter fun t => !isGm 3 t)
noncomputable def runG (G : List T) : Bool := G.all (game1B G) && nd 70 (G.map hU) && decide (G.length ≤ 1000) && (c3 G).all shape3 && (c4 G).all (shape4 (c3 G)) && hashB (DD (c3 G) (c4 G))
noncomputable def runB (raw : List T) : Bool := (raw.all fun t => !isGm 3 t || inL dayL t) && runG (rawG raw)
def GpR (G : List T) (t : T) : Prop := t ∈ dayL ∨ t ∈ G
theorem low_opt {u : T} (h : low3 u = true) {v : Int} {x : T} (hx : x ∈ opt u v) : x ∈ B2 := by
  unfold low3 inB2s at h
  rw [Bool.and_eq_true] at h
  rcases opt_or u v with e | e
  · rw [e] at hx; exact inL_ok (List.all_eq_true.mp h.1 x hx)
  · rw [e] at hx; exact inL_ok (List.all_eq_true.mp h.2 x hx)
theorem few_blks : ∀ {l : List T}, (∀ x ∈ l, ∃ n, isGm n x = true) → 3 * l.length ≤ blks l
  | [], _ => by simp
  | x :: l, h => by
    obtain ⟨n, hx⟩ := h x List.mem_cons_self
    have := few_blks fun y hy => h y (List.mem_cons_of_mem _ hy)
    have b := blk_opt hx 0
    rw [blks, List.length_cons]
    omega
theorem few_of {n : Nat} {u : T} (h : isGm (n + 1) u = true) (b : ∀ v, blks (opt u v) ≤ 180) (v : Int) : (opt u v).length < 64 := by
  have := few_blks (l := opt u v) fun x hx => ⟨n, gm_opt h hx⟩
  have := b v
  omega
theorem two_v {p : List T → Prop} {u : T} (h0 : p (opt u 0)) (h1 : p (opt u 1)) (v : Int) : p (opt u v) := by
  rcases opt_or u v with e | e
  · rw [e]; exact h0
  · rw [e]; exact h1
theorem one_out {l : List T} (h : (outB l).length ≤ 1) {x y : T} (hx : x ∈ l) (hy : y ∈ l) (nx : x ∉ B1) (ny : y ∉ B1) : x = y := by
  have a := (out_mem hx).resolve_left nx
  have b := (out_mem hy).resolve_left ny
  generalize outB l = m at *
  match m, h, a, b with
  | [z], _, a, b => rw [List.mem_singleton.mp a, List.mem_singleton.mp b]
  | _ :: _ :: _, h, _, _ => simp at h
theorem shape_run {U3 U4 : List T} (l3 : ∀ u ∈ U3, low3 u = true) (h3 : U3.all shape3 = true) (h4 : U4.all (shape4 U3) = true) (dl : (DD U3 U4).length ≤ 10000) : Shape U3 U4 := by
  have s3 : ∀ u ∈ U3, isGm 4 u = true ∧ ∀ v, blks (opt u v) ≤ 180 := fun u hu => by
    have k := List.all_eq_true.mp h3 u hu
    unfold shape3 at k
    simp only [Bool.and_eq_true, decide_eq_true_eq] at k
    exact ⟨k.1.1, fun v => two_v (p := fun l => blks l ≤ 180) k.1.2 k.2 v⟩
  have s4 : ∀ u ∈ U4, isGm 5 u = true ∧ (∀ v, ∀ x ∈ opt u v, x ∈ B2 ∨ x ∈ U3) ∧ (∀ v, blks (opt u v) ≤ 180) ∧ ∀ v, (outB (opt u v)).length ≤ 1 := fun u hu => by
    have k := List.all_eq_true.mp h4 u hu
    unfold shape4 at k
    simp only [Bool.and_eq_true, decide_eq_true_eq] at k
    obtain ⟨⟨⟨⟨⟨⟨k1, k2⟩, k3⟩, k4⟩, k5⟩, k6⟩, k7⟩ := k
    have mem : ∀ {l : List T}, (l.all fun x => inL B2 x || inL U3 x) = true → ∀ x ∈ l, x ∈ B2 ∨ x ∈ U3 := fun h x hx => by
      have := List.all_eq_true.mp h x hx
      rw [Bool.or_eq_true] at this
      exact this.imp inL_ok inL_ok
    exact ⟨k1, fun v => two_v (p := fun l => ∀ x ∈ l, x ∈ B2 ∨ x ∈ U3) (mem k2) (mem k3) v, fun v => two_v (p := fun l => blks l ≤ 180) k4 k5 v, fun v => two_v (p := fun l => (outB l).length ≤ 1) k6 k7 v⟩
  exact ⟨fun u hu => (s3 u hu).1, fun u hu => (s4 u hu).1, fun u hu v => few_of (s3 u hu).1 (s3 u hu).2 v, fun u hu v => few_of (s4 u hu).1 (s4 u hu).2.2.1 v, fun u hu v x hx => low_opt (l3 u hu) hx, fun u hu v x hx => (s4 u hu).2.1 v x hx, fun u hu v => (s3 u hu).2 v, fun u hu v => (s4 u hu).2.2.1 v, fun u hu v x hx y hy nx ny => one_out ((s4 u hu).2.2.2 v) hx hy nx ny, dl⟩
theorem hash_run {D : List (T × T)} (h : hashB D = true) : HashD D ∧ D.length ≤ 10000 := by
  unfold hashB at h
  simp only [Bool.and_eq_true, decide_eq_true_eq] at h
  obtain ⟨⟨h1, h2⟩, h3⟩ := h
  have nd := nd_ok 70 _ h2
  refine ⟨⟨fun p hp => ?_, fun p hp q hq e => inj_on nd hp hq e⟩, h3⟩
  have := noV_ok (List.all_eq_true.mp h1 (gP p.1 p.2) (List.mem_map.mpr ⟨p, hp, rfl⟩))
  rwa [Nat.mod_eq_of_lt (gP_lt _ _)] at this
theorem noD_ok {h : Nat} (k : noD h = true) {t : T} (ht : t ∈ dayL) : hU t ≠ h := fun e => by
  unfold noD at k
  rw [fz_eq, notB_eq] at k
  have := List.all_eq_true.mp k_trD t ht
  rw [e] at this
  rw [this] at k
  cases k
theorem here_run {G : List T} {t : T} (ht : t ∈ G) (h : (!isGm 3 (hereV t) || inL dayL (hereV t)) = true) : GmD (c3 G) (c4 G) (hereV t) := by
  cases c : isGm 3 (hereV t) with
  | true =>
    rw [c] at h
    exact .inl (inL_ok h)
  | false =>
    have m : hereV t ∈ candL G := List.mem_filter.mpr ⟨List.mem_append_left _ (List.mem_map.mpr ⟨t, ht, rfl⟩), by rw [c]; rfl⟩
    cases d : low3 (hereV t) with
    | true => exact .inr (.inl (T.mem_set.mpr (List.mem_filter.mpr ⟨m, d⟩)))
    | false => exact .inr (.inr (T.mem_set.mpr (List.mem_filter.mpr ⟨m, by rw [d]; rfl⟩)))
theorem run_ok {w : World} {G : List T} (h : runG G = true) : RunOk w (GpR G) (c3 G) (c4 G) := by
  unfold runG at h
  simp only [Bool.and_eq_true, decide_eq_true_eq] at h
  obtain ⟨⟨⟨⟨⟨h1, h2⟩, h3⟩, h4⟩, h5⟩, h6⟩ := h
  obtain ⟨H, dl⟩ := hash_run h6
  have S : Shape (c3 G) (c4 G) := shape_run (fun u hu => (List.mem_filter.mp (T.mem_set.mp hu)).2) h4 h5 dl
  have g1 : ∀ t ∈ G, isGm 5 t = true ∧ (∀ v, ∀ x ∈ opt t v, GpR G x) ∧ (∀ v, (opt t v).length ≤ 30) ∧ GmD (c3 G) (c4 G) (hereV t) ∧ noD (hU t) = true := fun t ht => by
    have k := List.all_eq_true.mp h1 t ht
    unfold game1B at k
    simp only [Bool.and_eq_true] at k
    obtain ⟨⟨⟨⟨⟨⟨k1, k2⟩, k3⟩, k4⟩, k5⟩, k6⟩, k7⟩ := k
    have mem : ∀ {l : List T}, (l.all fun x => inL G x || (isGm 3 x && inL dayL x)) = true → ∀ x ∈ l, GpR G x := fun h x hx => by
      have := List.all_eq_true.mp h x hx
      rw [Bool.or_eq_true, Bool.and_eq_true] at this
      rcases this with c | c
      · exact .inr (inL_ok c)
      · exact .inl (inL_ok c.2)
    have k4 := of_decide_eq_true k4
    have k5 := of_decide_eq_true k5
    exact ⟨k1, fun v => two_v (p := fun l => ∀ x ∈ l, GpR G x) (mem k2) (mem k3) v, fun v => two_v (p := fun l => l.length ≤ 30) k4 k5 v, here_run ht k6, k7⟩
  have bd : ∀ t, GpR G t → isGm 5 t = true := fun t ht => ht.elim (fun h => gm_mono (day_gp h) (by decide)) fun h => (g1 t h).1
  have hh : ∀ t, GpR G t → GmD (c3 G) (c4 G) (hereV t) := fun t ht => ht.elim (fun h => .inl (here_day h)) fun h => (g1 t h).2.2.2.1
  have nar : ∀ t, GpR G t → ∀ v, (opt t v).length ≤ 30 := fun t ht v => by
    rcases ht with k | k
    · have := (day_s k).few v; omega
    · exact (g1 t k).2.2.1 v
  refine ⟨fun t ht v x hx => ?_, bd, fun t ht v => by have := nar t ht v; omega, nar, ?_, hh, fun t ht v x hx => kid_of S (hh t ht) hx, S, H⟩
  · rcases ht with k | k
    · exact .inl (b1_s ((day_s k).kid v x hx)).2.1
    · exact (g1 t k).2.1 v x hx
  · have l1 := of_decide_eq_true k_len
    refine game_fam (dayL ++ G) (by rw [List.length_append]; omega) (fun t ht => List.mem_append.mpr ht) (.inr ⟨bd, fun t u ht hu e => ?_⟩)
    rcases ht with k | k <;> rcases hu with q | q
    · exact inj_on (nd_ok 70 _ k_dayH) k q e
    · exact absurd e (noD_ok (g1 u q).2.2.2.2 k)
    · exact absurd e.symm (noD_ok (g1 t k).2.2.2.2 q)
    · exact inj_on (nd_ok 70 _ h2) k q e
theorem run_raw {raw : List T} (h : runB raw = true) : runG (rawG raw) = true ∧ ∀ t ∈ raw, GpR (rawG raw) t := by
  unfold runB at h
  rw [Bool.and_eq_true] at h
  refine ⟨h.2, fun t ht => ?_⟩
  have k := List.all_eq_true.mp h.1 t ht
  cases c : isGm 3 t with
  | true =>
    rw [c] at k
    exact .inl (inL_ok k)
  | false => exact .inr (T.mem_set.mpr (List.mem_filter.mpr ⟨ht, by rw [c]; rfl⟩))
/-- the games that are drawn to last up to 2 -/
def sub2 : List (List T) := (subsT B1).filter fun l => decide (l.length ≤ 2)
def g121 : List T := sub2.flatMap fun p => sub2.map fun q => T.gm p q
def zL : List T := T.set (B1.map fun s => adV s (tnV s))
def told0 (g : T) : List T := match opt g 0 with
  | [] => []
  | x :: l => [T.gm (T.set (x :: l ++ [adV x mOne])) (T.set (opt g 1))]
def told1 (g z : T) : List T := (g :: B1).flatMap fun x => (z :: B1).map fun y => adV x y
def told2 (g s m : T) : List T := [T.gm (T.set (opt g 0 ++ [T.gm (T.set [s, m]) (T.set [g, m])])) (T.set (opt g 1)), T.gm (T.set [s, m]) (T.set [g, m])]
def told3 (g s m : T) : List T := [T.gm (T.set (opt g 0)) (T.set (opt g 1 ++ [T.gm (T.set [g, m]) (T.set [s, m])])), T.gm (T.set [g, m]) (T.set [s, m])]
end LM

set_option Elab.async false
set_option linter.all false
set_option maxRecDepth 100000
set_option maxHeartbeats 4000000
namespace LM
open PySem PySem.Spec PyProof.Rows L2 Evl
theorem k_told0 : (g121.all fun g => runB (told0 g)) = true := by decide +kernel
theorem k_told1_0 : (((g121.drop 0).take 11).all fun g => zL.all fun z => runB (told1 g z)) = true := by decide +kernel
theorem k_told1_1 : (((g121.drop 11).take 11).all fun g => zL.all fun z => runB (told1 g z)) = true := by decide +kernel
theorem k_told1_2 : (((g121.drop 22).take 11).all fun g => zL.all fun z => runB (told1 g z)) = true := by decide +kernel
theorem k_told1_3 : (((g121.drop 33).take 11).all fun g => zL.all fun z => runB (told1 g z)) = true := by decide +kernel
theorem k_told1_4 : (((g121.drop 44).take 11).all fun g => zL.all fun z => runB (told1 g z)) = true := by decide +kernel
theorem k_told1_5 : (((g121.drop 55).take 11).all fun g => zL.all fun z => runB (told1 g z)) = true := by decide +kernel
theorem k_told1_6 : (((g121.drop 66).take 11).all fun g => zL.all fun z => runB (told1 g z)) = true := by decide +kernel
theorem k_told1_7 : (((g121.drop 77).take 11).all fun g => zL.all fun z => runB (told1 g z)) = true := by decide +kernel
theorem k_told1_8 : (((g121.drop 88).take 11).all fun g => zL.all fun z => runB (told1 g z)) = true := by decide +kernel
theorem k_told1_9 : (((g121.drop 99).take 11).all fun g => zL.all fun z => runB (told1 g z)) = true := by decide +kernel
theorem k_told1_10 : (((g121.drop 110).take 11).all fun g => zL.all fun z => runB (told1 g z)) = true := by decide +kernel
end LM

set_option Elab.async false
set_option linter.all false
set_option maxRecDepth 100000
set_option maxHeartbeats 4000000
namespace LM
open PySem PySem.Spec PyProof.Rows L2 Evl
theorem k_told2_0 : (((g121.drop 0).take 11).all fun g => B1.all fun s => B1.all fun m => runB (told2 g s m)) = true := by decide +kernel
theorem k_told2_1 : (((g121.drop 11).take 11).all fun g => B1.all fun s => B1.all fun m => runB (told2 g s m)) = true := by decide +kernel
theorem k_told2_2 : (((g121.drop 22).take 11).all fun g => B1.all fun s => B1.all fun m => runB (told2 g s m)) = true := by decide +kernel
theorem k_told2_3 : (((g121.drop 33).take 11).all fun g => B1.all fun s => B1.all fun m => runB (told2 g s m)) = true := by decide +kernel
theorem k_told2_4 : (((g121.drop 44).take 11).all fun g => B1.all fun s => B1.all fun m => runB (told2 g s m)) = true := by decide +kernel
theorem k_told2_5 : (((g121.drop 55).take 11).all fun g => B1.all fun s => B1.all fun m => runB (told2 g s m)) = true := by decide +kernel
theorem k_told2_6 : (((g121.drop 66).take 11).all fun g => B1.all fun s => B1.all fun m => runB (told2 g s m)) = true := by decide +kernel
theorem k_told2_7 : (((g121.drop 77).take 11).all fun g => B1.all fun s => B1.all fun m => runB (told2 g s m)) = true := by decide +kernel
theorem k_told2_8 : (((g121.drop 88).take 11).all fun g => B1.all fun s => B1.all fun m => runB (told2 g s m)) = true := by decide +kernel
theorem k_told2_9 : (((g121.drop 99).take 11).all fun g => B1.all fun s => B1.all fun m => runB (told2 g s m)) = true := by decide +kernel
theorem k_told2_10 : (((g121.drop 110).take 11).all fun g => B1.all fun s => B1.all fun m => runB (told2 g s m)) = true := by decide +kernel
end LM

set_option Elab.async false
set_option linter.all false
set_option maxRecDepth 100000
set_option maxHeartbeats 4000000
namespace LM
open PySem PySem.Spec PyProof.Rows L2 Evl
theorem k_told3_0 : (((g121.drop 0).take 11).all fun g => B1.all fun s => B1.all fun m => runB (told3 g s m)) = true := by decide +kernel
theorem k_told3_1 : (((g121.drop 11).take 11).all fun g => B1.all fun s => B1.all fun m => runB (told3 g s m)) = true := by decide +kernel
theorem k_told3_2 : (((g121.drop 22).take 11).all fun g => B1.all fun s => B1.all fun m => runB (told3 g s m)) = true := by decide +kernel
theorem k_told3_3 : (((g121.drop 33).take 11).all fun g => B1.all fun s => B1.all fun m => runB (told3 g s m)) = true := by decide +kernel
theorem k_told3_4 : (((g121.drop 44).take 11).all fun g => B1.all fun s => B1.all fun m => runB (told3 g s m)) = true := by decide +kernel
theorem k_told3_5 : (((g121.drop 55).take 11).all fun g => B1.all fun s => B1.all fun m => runB (told3 g s m)) = true := by decide +kernel
theorem k_told3_6 : (((g121.drop 66).take 11).all fun g => B1.all fun s => B1.all fun m => runB (told3 g s m)) = true := by decide +kernel
theorem k_told3_7 : (((g121.drop 77).take 11).all fun g => B1.all fun s => B1.all fun m => runB (told3 g s m)) = true := by decide +kernel
theorem k_told3_8 : (((g121.drop 88).take 11).all fun g => B1.all fun s => B1.all fun m => runB (told3 g s m)) = true := by decide +kernel
theorem k_told3_9 : (((g121.drop 99).take 11).all fun g => B1.all fun s => B1.all fun m => runB (told3 g s m)) = true := by decide +kernel
theorem k_told3_10 : (((g121.drop 110).take 11).all fun g => B1.all fun s => B1.all fun m => runB (told3 g s m)) = true := by decide +kernel
end LM

set_option Elab.async false
set_option linter.all false
set_option maxRecDepth 100000
set_option maxHeartbeats 4000000
namespace LM
open PySem PySem.Spec PyProof.Rows L2 Evl
/-! ### sorted of a list or a tuple of trees; games by moves in a list or a tuple -/
def rSortAny (K : PySem.W.Frag) : List V → Hp → VK → Prop := fun vs H Q => rSortTr K vs H Q ∨ rSortTT K vs H Q
theorem cr_sortedAny {X : Cx} (hu : X.A.units + 100 < cLine) : CallR X (.builtin "sorted") (rSortAny X.K) := by
  intro pins s σ H vs us Q I r h
  rcases h with h | h
  · exact cr_sortedTr hu pins s σ H vs us Q I r h
  · exact cr_sortedTT hu pins s σ H vs us Q I r h
theorem cr_sortedAnyK {X : Cx} (K : PySem.W.Frag) (h : X.K = K) (hu : X.A.units + 100 < cLine) : CallR X (.builtin "sorted") (rSortAny K) := h ▸ cr_sortedAny hu
def SeqD (ts : List T) (d : D) : Prop := d = .list (ts.map T.data) ∨ d = .tuple (ts.map T.data)
theorem cl_sortedAny {K : PySem.W.Frag} {ts : List T} {d : D} (h : SeqD ts d) (hf : ∀ t ∈ ts, full t = true) (hd : T.depths ts ≤ 60) : CL K (rSortAny K) [d] ((T.sort ts).map T.data) := fun H Hm xs s hx Q q => by
  rcases h with rfl | rfl
  · exact .inl (cl_sortedTr hf hd H Hm xs s hx Q q)
  · exact .inr (cl_sortedTT hf hd H Hm xs s hx Q q)
def ROnceA (ds : List D) (r : D) : Prop := ∃ (ts : List T) (d : D), ds = [d] ∧ SeqD ts d ∧ (∀ t ∈ ts, full t = true) ∧ T.depths ts ≤ 60 ∧ ts.length ≤ 50000 ∧ r = .tuple ((T.set ts).map T.data)
def RByA (ds : List D) (r : D) : Prop := ∃ (ls rs : List T) (a b : D), ds = [a, b] ∧ SeqD ls a ∧ SeqD rs b ∧ (∀ t ∈ ls, full t = true) ∧ (∀ t ∈ rs, full t = true) ∧ T.depths ls ≤ 60 ∧ T.depths rs ≤ 60 ∧ ls.length ≤ 50000 ∧ rs.length ≤ 50000 ∧ r = (T.gm (T.set ls) (T.set rs)).data
section
variable {P : Program} {w : World} {K : PySem.W.Frag} {mg : Str → Option Value} {base : Heap} {f : Addr} {fd : FuncData} {k j : Nat}
theorem has__law_onceA (B : BI mg) (F : Fun K "_law_once" "_law_once" sLawOnce f fd) (b : Binds K fd ["_law_some"] []) (hm : mg "_law_once" = some (.ref f)) : Has P w K mg base (k + 1) "_law_once" (SpR K ROnceA) := by
  refine has_of F b hm scLawOnce (by decide) (fun ds r h => by obtain ⟨_, _, rfl, _⟩ := h; rfl) (fun cdv A outer s H E hr => ⟨_, (pss_cons (ps_set (i := 1) scLawOnce.nd rfl (by first | exact .inl rfl | exact .inr rfl) (pe_lst pa_nil))
    (pss_cons (ps_for PassesOwn.never rfl (pi_listK K rfl (pe_callB (cr_sortedAnyK K rfl (hu100 hr)) (by rfl) B.sorted boot_sorted (pa_cons (pv 0) pa_nil))) (pg_name (i := 2) scLawOnce.nd rfl (by first | exact .inl rfl | exact .inr rfl)) (pss_one (ps_if (pw_or (pt_cmpR (op_eqK K rfl (hu64 hr)) (pv 1) (pe_lst pa_nil) (nomark _)) (pw_or1 (pt_cmpR (op_neK K rfl (hu64 hr)) (pe_ix (ix_K K rfl) (pv 1) (pe_un un_neg pe_int) (fun _ _ => rfl)) (pv 2) (nomark _)))).pt (pss_one (ps_expr (pe_bmK K rfl (pe_bm PySem.F.plainAttrs_list PySem.F.slot_list_append PySem.F.type_list_append mt_append (pv 1) (pa_cons (pv 2) pa_nil))))) pss_nil)))
    (pss_one (ps_ret (pe_callTy (call_tupleK K rfl) (by rfl) B.tuple boot_tuple (pa_cons (pv 1) pa_nil)))))), fun ds r h => ?_⟩)
  try dsimp only [cxOf, Cx.nox, Cx.wish]
  obtain ⟨ts, d0, rfl, sq, hf, hd, hn, rfl⟩ := h
  have o1 : ∀ i, T.Asc (T.once [] ((T.sort ts).take i)) ∧ ∀ x, x ∈ T.once [] ((T.sort ts).take i) ↔ x ∈ [] ∨ x ∈ (T.sort ts).take i := fun i => T.once_set ((T.sort ts).take i) [] List.Pairwise.nil ((T.sort_srt ts).sublist (List.take_sublist _ _)) (fun a ha => by cases ha)
  have on : ∀ i, ∀ x ∈ T.once [] ((T.sort ts).take i), x ∈ ts := fun i x hx => by
    rcases ((o1 i).2 x).mp hx with h | h
    · cases h
    · exact T.mem_sort.mp (List.mem_of_mem_take h)
  have dn : ∀ i, T.depths (T.once [] ((T.sort ts).take i)) ≤ 60 := fun i => T.depths_le fun x hx => Nat.le_trans (T.depth_mem (on i x hx)) hd
  have ln : ∀ i, (T.once [] ((T.sort ts).take i)).length ≤ 50000 := fun i => Nat.le_trans ((o1 i).1.nodup.length_le_of_subset (on i)) hn
  refine (show XD K _ [some d0, none, none] none _ from ?_)
  refine xd_seq (xd_asgOwn (el_lst eds_nil)) ?_
  refine xd_seq (xd_forL (fun _ => [some d0, none, none]) (fun i => some (1, (T.once [] ((T.sort ts).take i)).map T.data)) (ed_el (el_cb (eds_cons (ed_var rfl) eds_nil) (cl_sortedAny sq hf hd))) rfl rfl (fun i q e => by cases e; show (1 : Nat) ≠ 2; decide) (Go.allF (fun _ d => by simp) (fun _ => rfl) fun i d hi => ?_)) ?_
  · skip
    rw [List.getElem?_map] at hi
    obtain ⟨x, hx, rfl⟩ := Option.map_eq_some_iff.mp hi
    have hmem : x ∈ ts := T.mem_sort.mp (List.mem_of_getElem? hx)
    have hdx : x.depth ≤ 60 := Nat.le_trans (T.depth_mem hmem) hd
    have hd0 := dn i
    have hl0 := ln i
    rw [List.take_add_one, hx, Option.toList_some, T.once_app]
    generalize T.once [] ((T.sort ts).take i) = ys at *
    have sh : SeqAt.shaped (.list (ys.map T.data)) = true := (fit_lst.mpr (fit_Ts hd0)).shaped (by decide)
    have shx : SeqAt.shaped x.data = true := (fit_T (Nat.le_refl _)).shaped (by omega)
    refine xd_if (b := decide (ys.getLast? ≠ some x)) (et_is' (et_or (x := ys.isEmpty) (y := decide (ys.getLast? ≠ some x)) (et_is' (et_test (ed_op (ed_var rfl) (ed_el (el_lst eds_nil)) (rd_eqU sh rfl))) ?_) fun ne => ?_) ?_) (fun c => ?_) (fun c => ?_)
    · rw [eqv_list, eqvs_nil]; simp
    · have hne : ys ≠ [] := fun e => by rw [e] at ne; cases ne
      obtain ⟨zs, z, rfl⟩ : ∃ zs z, ys = zs ++ [z] := ⟨_, _, (List.dropLast_concat_getLast hne).symm⟩
      have hz : z.depth ≤ 60 := Nat.le_trans (T.depth_mem (by simp)) hd0
      refine et_is' (et_test (ed_op (ed_op (ed_var rfl) (ed_un ed_int ud_neg) (rd_ixUL (d := z.data) ?_)) (ed_var rfl) (rd_neU ((fit_T (Nat.le_refl _)).shaped (by omega)) shx))) ?_
      · rw [List.map_append]; exact atI_last
      · rw [T.data_eqv, List.getLast?_append]; simp
    · cases ys with
      | nil => simp
      | cons y ys => simp
    · have c' := of_decide_eq_true c
      rw [if_neg c', List.map_append]
      exact xd_app (ed_var rfl) (imm_T x) (by rw [List.length_map]; omega)
    · have c' := of_decide_eq_false c
      rw [if_pos (Classical.not_not.mp c')]
      exact xd_next
  · refine xd_ret (ed_cb (eds_cons (ed_var rfl) eds_nil) ?_)
    rw [List.length_map, List.take_length, T.once_sort]
    exact cd_tupL
end
section
variable {P : Program} {w : World} {K : PySem.W.Frag} {mg : Str → Option Value} {base : Heap} {f : Addr} {fd : FuncData} {k j : Nat}
theorem has__law_byA (B : BI mg) (F : Fun K "_law_by" "_law_by" sLawBy f fd) (b : Binds K fd ["_law_lefts", "_law_rights"] []) (hm : mg "_law_by" = some (.ref f)) (h__law_once : Has P w K mg base k "_law_once" (SpR K ROnceA)) : Has P w K mg base (k + 1) "_law_by" (SpR K RByA) := by
  refine has_of F b hm scLawBy (by decide) (fun ds r h => by obtain ⟨_, _, _, _, rfl, _⟩ := h; rfl) (fun cdv A outer s H E hr => ⟨_, (pss_one (ps_ret (pe_tup (pa_cons (pe_h h__law_once hr (by omega) (by rfl) (pa_cons (pv 0) pa_nil)) (pa_cons (pe_h h__law_once hr (by omega) (by rfl) (pa_cons (pv 1) pa_nil)) pa_nil))))), fun ds r h => ?_⟩)
  try dsimp only [cxOf, Cx.nox, Cx.wish]
  obtain ⟨ls, rs, a, b, rfl, sa, sb, fl, fr, dl, dr, nl, nr, rfl⟩ := h
  rw [T.gm_data]
  exact xd_ret (ed_tup (eds_cons (ed_call (eds_cons (ed_var rfl) eds_nil) ⟨ls, a, rfl, sa, fl, dl, nl, rfl⟩) (eds_cons (ed_call (eds_cons (ed_var rfl) eds_nil) ⟨rs, b, rfl, sb, fr, dr, nr, rfl⟩) eds_nil)) (by simp))
theorem by_list (h : Has P w K mg base k "_law_by" (SpR K RByA)) : Has P w K mg base k "_law_by" (SpR K RBy) := h.imp fun ds r h => by
  obtain ⟨ls, rs, rfl, h⟩ := h
  exact ⟨ls, rs, _, _, rfl, .inl rfl, .inl rfl, h⟩
end
/-! the games that a law draws -/
def many (n who : Int) : Nat := [0, 1, 1, 2].getD ((drawn n who) % 4).toNat 0
theorem many_le (n who : Int) : many n who ≤ 2 := by
  unfold many
  have h0 := Int.emod_nonneg (drawn n who) (show (4 : Int) ≠ 0 by decide)
  have h1 := Int.emod_lt_of_pos (drawn n who) (show (0 : Int) < 4 by decide)
  generalize (drawn n who) % 4 = z at h0 h1 ⊢
  have : z = 0 ∨ z = 1 ∨ z = 2 ∨ z = 3 := by omega
  rcases this with e | e | e | e <;> subst e <;> decide
theorem many_at (n who : Int) : atI [PyData.int 0, .int 1, .int 1, .int 2] (drawn n who % 4) = some (.int (many n who : Int)) := by
  unfold many
  have h0 := Int.emod_nonneg (drawn n who) (show (4 : Int) ≠ 0 by decide)
  have h1 := Int.emod_lt_of_pos (drawn n who) (show (0 : Int) < 4 by decide)
  generalize (drawn n who) % 4 = z at h0 h1 ⊢
  have : z = 0 ∨ z = 1 ∨ z = 2 ∨ z = 3 := by omega
  rcases this with e | e | e | e <;> subst e <;> rfl
def intD : D → Int
  | .int i => i
  | _ => 0
theorem mem_rng {d : D} {lo : Int} {n : Nat} (h : d ∈ rngD lo n) : ∃ i : Nat, i < n ∧ d = .int (lo + (i : Int)) := by
  unfold rngD at h
  obtain ⟨i, hi, rfl⟩ := List.mem_map.mp h
  exact ⟨i, List.mem_range.mp hi, rfl⟩
def rowOf (g : Int → T) (n who : Int) : List T := (List.range (many n who)).map fun (k : Nat) => g (drawn n (10 + 4 * who + (k : Int)))
def gmOf (g : Int → T) (n : Int) : T := T.gm (T.set (rowOf g n 0)) (T.set (rowOf g n 1))
def game : Nat → Int → T
  | 0, _ => T.gm [] []
  | 1, n => gmOf (game 0) n
  | d + 2, n => if n / 7 % 2 = 0 then gmOf (game (d + 1)) n else gmOf (game d) n
/-- a game that lasts at most n, each row of at most 2 moves -/
def T.G : Nat → T → Prop
  | 0, t => t = T.gm [] []
  | m + 1, t => ∃ ls rs, t = T.gm ls rs ∧ T.Asc ls ∧ T.Asc rs ∧ ls.length ≤ 2 ∧ rs.length ≤ 2 ∧ (∀ x ∈ ls, T.G m x) ∧ ∀ x ∈ rs, T.G m x
theorem T.G.up : ∀ {m : Nat} {t : T}, T.G m t → T.G (m + 1) t
  | 0, t, h => ⟨[], [], h, List.Pairwise.nil, List.Pairwise.nil, by simp, by simp, by simp, by simp⟩
  | m + 1, t, h => by
    obtain ⟨ls, rs, e, a, b, c, d, h1, h2⟩ := h
    exact ⟨ls, rs, e, a, b, c, d, fun x hx => T.G.up (h1 x hx), fun x hx => T.G.up (h2 x hx)⟩
theorem T.G.le {k m : Nat} {t : T} (h : T.G k t) (hm : k ≤ m) : T.G m t := by
  induction hm with
  | refl => exact h
  | step _ ih => exact ih.up
theorem gmL_full (ls rs : List T) : full (T.gm ls rs) = true := rfl
theorem gm_depth (ls rs : List T) : (T.gm ls rs).depth = max (T.depths ls) (T.depths rs) + 2 := by
  unfold T.gm
  simp only [T.depth, T.depths]
  omega
theorem T.G.full : ∀ {m : Nat} {t : T}, T.G m t → LM.full t = true
  | 0, t, h => by rw [show t = T.gm [] [] from h]; rfl
  | m + 1, t, h => by obtain ⟨ls, rs, rfl, _⟩ := h; rfl
theorem T.G.depth : ∀ {m : Nat} {t : T}, T.G m t → t.depth ≤ 2 * m + 2
  | 0, t, h => by rw [show t = T.gm [] [] from h, gm_depth]; simp [T.depths]
  | m + 1, t, h => by
    obtain ⟨ls, rs, rfl, _, _, _, _, h1, h2⟩ := h
    have a := T.depths_le (k := 2 * m + 2) fun x hx => T.G.depth (h1 x hx)
    have b := T.depths_le (k := 2 * m + 2) fun x hx => T.G.depth (h2 x hx)
    rw [gm_depth]
    omega
theorem row_map (g : Int → T) (n who : Int) : (rngD 0 (many n who)).map (fun d => (g (drawn n (10 + 4 * who + intD d))).data) = (rowOf g n who).map T.data := by
  unfold rowOf rngD
  rw [List.map_map, List.map_map]
  refine List.map_congr_left fun i _ => ?_
  show (g (drawn n (10 + 4 * who + (0 + (i : Int))))).data = (g (drawn n (10 + 4 * who + (i : Int)))).data
  rw [Int.zero_add]
theorem row_G {g : Int → T} {m : Nat} (h : ∀ n, T.G m (g n)) (n who : Int) : (∀ x ∈ rowOf g n who, T.G m x) ∧ (rowOf g n who).length ≤ 2 := by
  unfold rowOf
  refine ⟨fun x hx => ?_, by rw [List.length_map, List.length_range]; exact many_le n who⟩
  obtain ⟨k, _, rfl⟩ := List.mem_map.mp hx
  exact h _
theorem gmOf_G {g : Int → T} {m : Nat} (h : ∀ n, T.G m (g n)) (n : Int) : T.G (m + 1) (gmOf g n) := by
  obtain ⟨a1, a2⟩ := row_G h n 0
  obtain ⟨b1, b2⟩ := row_G h n 1
  exact ⟨_, _, rfl, T.asc_set _, T.asc_set _, Nat.le_trans (T.set_len _) a2, Nat.le_trans (T.set_len _) b2, fun x hx => a1 x (T.mem_set.mp hx), fun x hx => b1 x (T.mem_set.mp hx)⟩
theorem game_G : ∀ (d : Nat) (n : Int), T.G d (game d n)
  | 0, n => (rfl : T.gm [] [] = T.gm [] [])
  | 1, n => gmOf_G (game_G 0) n
  | d + 2, n => by
    unfold game
    split
    · exact gmOf_G (game_G (d + 1)) n
    · exact (gmOf_G (game_G d) n).up
theorem game_left (d : Nat) (n : Int) (hn : 0 ≤ n) : ∃ d', d' ≤ d ∧ max 0 ((d + 1 : Nat) - 1 - n / 7 % 2 : Int) = (d' : Int) ∧ game (d + 1) n = gmOf (game d') n := by
  have h0 := Int.emod_nonneg (n / 7) (show (2 : Int) ≠ 0 by decide)
  have h1 := Int.emod_lt_of_pos (n / 7) (show (0 : Int) < 2 by decide)
  cases d with
  | zero => exact ⟨0, Nat.le_refl _, by omega, rfl⟩
  | succ d =>
    by_cases c : n / 7 % 2 = 0
    · exact ⟨d + 1, Nat.le_refl _, by omega, by show (if n / 7 % 2 = 0 then _ else _) = _; rw [if_pos c]⟩
    · exact ⟨d, Nat.le_succ _, by omega, by show (if n / 7 % 2 = 0 then _ else _) = _; rw [if_neg c]⟩
def RGame (dd : Nat) (ds : List D) (r : D) : Prop := ∃ (n : Int) (d : Nat), ds = [.int n, .int (d : Int)] ∧ 0 ≤ n ∧ d < dd ∧ r = (game d n).data
/-! ### _law_game -/
abbrev sLawGame : Stmt := topS 13
abbrev nLawGame : List Str := ["_law_number", "_law_deep", "_law_rows", "_law_who", "_law_many", "_law_left", "_law_k"]
theorem scLawGame : FnScope nLawGame ["_law_number", "_law_deep"] (defScope sLawGame) := ⟨rfl, rfl, rfl, by decide +kernel, rfl, by decide +kernel, by decide +kernel⟩
section
variable {P : Program} {w : World} {K : PySem.W.Frag} {mg : Str → Option Value} {base : Heap} {f : Addr} {fd : FuncData} {k j : Nat}
theorem has__law_game1 (B : BI mg) (F : Fun K "_law_game" "_law_game" sLawGame f fd) (b : Binds K fd ["_law_number", "_law_deep"] []) (hm : mg "_law_game" = some (.ref f)) {dd : Nat} (hdd : dd ≤ 20)
    (h__law_drawn : Has P w K mg base k "_law_drawn" (SpR K RDrawn)) (h__law_by : Has P w K mg base k "_law_by" (SpR K RBy)) (h__law_game : Has P w K mg base k "_law_game" (SpR K (RGame dd))) : Has P w K mg base (k + 1) "_law_game" (SpR K (RGame (dd + 1))) := by
  refine has_of F b hm scLawGame (by decide) (fun ds r h => by obtain ⟨_, _, rfl, _⟩ := h; rfl) (fun cdv A outer s H E hr => ⟨_, (pss_cons (ps_if (pt_cmpR (op_eqK K rfl (hu64 hr)) (pv 1) pe_int (nomark _)) (pss_one (ps_ret (pe_tup (pa_cons (pe_tup pa_nil) (pa_cons (pe_tup pa_nil) pa_nil))))) pss_nil)
    (pss_cons (ps_set (i := 2) scLawGame.nd rfl (by first | exact .inl rfl | exact .inr rfl) (pe_lst pa_nil))
    (pss_cons (ps_for PassesOwn.never rfl (pi_tupK K rfl (pe_tup (pa_cons pe_int (pa_cons pe_int pa_nil)))) (pg_name (i := 3) scLawGame.nd rfl (by first | exact .inl rfl | exact .inr rfl)) (pss_cons (ps_set (i := 4) scLawGame.nd rfl (by first | exact .inl rfl | exact .inr rfl) (pe_ix (ix_K K rfl) (pe_tup (pa_cons pe_int (pa_cons pe_int (pa_cons pe_int (pa_cons pe_int pa_nil))))) (pe_op op_mod (pe_h h__law_drawn hr (by omega) (by rfl) (pa_cons (pv 0) (pa_cons (pv 3) pa_nil))) pe_int) (fun _ _ => rfl)))
    (pss_cons (ps_set (i := 5) scLawGame.nd rfl (by first | exact .inl rfl | exact .inr rfl) (pe_callB (call_max2 rfl) (by rfl) B.max boot_max (pa_cons pe_int (pa_cons (pe_op op_sub (pe_op op_sub (pv 1) pe_int) (pe_op op_mod (pe_op op_fdiv (pv 0) pe_int) pe_int)) pa_nil))))
    (pss_one (ps_expr (pe_bmK K rfl (pe_bm PySem.F.plainAttrs_list PySem.F.slot_list_append PySem.F.type_list_append mt_append (pv 2) (pa_cons (pe_lc (own := [("_law_k", 6)]) rfl scLawGame.nd (pi_range1 (by rfl) B.range (pa_cons (pv 4) pa_nil)) (blkOk_by (N := nLawGame) (sc := defScope sLawGame) (by decide +kernel)) (fun _ _ _ _ _ => (pg_name (i := 6) scLawGame.nd rfl (by first | exact .inl rfl | exact .inr rfl))) (fun _ _ _ _ _ => pts_nil) (fun _ _ _ _ _ => (pe_h h__law_game hr (by omega) (by rfl) (pa_cons (pe_h h__law_drawn hr (by omega) (by rfl) (pa_cons (pv 0) (pa_cons (pe_op (op_addK K rfl) (pe_op (op_addK K rfl) pe_int (pe_op (op_mulK K rfl) pe_int (pv 3))) (pv 6)) pa_nil))) (pa_cons (pv 5) pa_nil))))) pa_nil))))))))
    (pss_one (ps_ret (pe_h h__law_by hr (by omega) (by rfl) (pa_cons (pe_ix (ix_K K rfl) (pv 2) pe_int (fun _ _ => rfl)) (pa_cons (pe_ix (ix_K K rfl) (pv 2) pe_int (fun _ _ => rfl)) pa_nil)))))))), fun ds r h => ?_⟩)
  try dsimp only [cxOf, Cx.nox, Cx.wish]
  obtain ⟨n, d, rfl, hn, hd, rfl⟩ := h
  refine (show XD K _ [some (.int n), some (.int (d : Int)), none, none, none, none, none] none _ from ?_)
  refine xd_ifs (b := decide ((d : Int) = 0)) (by (repeat' (first
    | exact ed_var rfl | exact ed_int | exact ed_bl | exact ed_str | exact ed_non
    | exact eds_nil | with_reducible refine' eds_cons ?_ ?_
    | exact rd_addI | exact rd_sub | exact rd_ltI | exact rd_geI | exact rd_gtI | exact rd_le | exact rd_lt | exact rd_eqI | exact rd_neI | exact rd_eqS | exact rd_neS
    | exact rd_mulI (.inr ⟨by decide, by decide⟩) | exact rd_mulI (.inl ⟨by decide, by decide⟩) | exact rd_mod (by decide) | exact rd_div ⟨by decide, by decide⟩
    | exact ud_neg
    | exact et_yes
    | with_reducible refine' ed_op ?_ ?_ ?_ | with_reducible refine' ed_un ?_ ?_ | with_reducible refine' ed_tup ?_ ?_ | with_reducible refine' et_test ?_ | with_reducible refine' et_B ?_ | with_reducible refine ed_notV ?_ | with_reducible refine et_not ?_
    | exact cd_max2 | exact cd_min2 | exact cd_abs | exact cd_lenL | exact cd_lenT | exact cd_tupL | exact cd_tupT
    | exact ed_isi (by assumption) rfl
    | with_reducible refine' ed_cb ?_ ?_ ))) (fun c => ?_) (fun c => ?_)
  · have e : d = 0 := by have := of_decide_eq_true c; omega
    subst e
    refine xd_rets ?_
    show ED K _ _ (T.gm [] []).data
    rw [T.gm_data]
    exact ed_tup (eds_cons (ed_tup eds_nil) (eds_cons (ed_tup eds_nil) eds_nil)) (by simp)
  · have hd0 : d ≠ 0 := by have := of_decide_eq_false c; omega
    obtain ⟨d, rfl⟩ : ∃ e, d = e + 1 := ⟨d - 1, by omega⟩
    obtain ⟨l, hl, el, eg⟩ := game_left d n hn
    rw [eg]
    have bd0 := row_G (game_G l) n 0
    have bd1 := row_G (game_G l) n 1
    have dp : ∀ who : Int, T.depths (rowOf (game l) n who) ≤ 60 := fun who => T.depths_le fun x hx => by
      have := ((row_G (game_G l) n who).1 x hx).depth
      omega
    refine xd_nexts (xd_seq (xd_asgOwn (el_lst eds_nil)) ?_)
    refine xd_seq (xd_forT (items := [.int 0, .int 1]) (fun _ => [some (.int n), some (.int ((d + 1 : Nat) : Int)), none, none, none, none, none]) (fun i => some (2, [PyData.list ((rowOf (game l) n 0).map T.data), PyData.list ((rowOf (game l) n 1).map T.data)].take i))
      (ed_tup (eds_cons ed_int (eds_cons ed_int eds_nil))) (.inr (by rfl)) rfl rfl (fun i q e => by cases e; show (2 : Nat) ≠ 3; decide) (Go.all fun i d' hi => ?_)) ?_
    · obtain ⟨who, rfl, hw, et⟩ : ∃ who : Int, d' = .int who ∧ (who = 0 ∨ who = 1) ∧ [PyData.list ((rowOf (game l) n 0).map T.data), PyData.list ((rowOf (game l) n 1).map T.data)].take (i + 1) = [PyData.list ((rowOf (game l) n 0).map T.data), PyData.list ((rowOf (game l) n 1).map T.data)].take i ++ [.list ((rowOf (game l) n who).map T.data)] := by
        rcases i with _ | _ | i
        · cases hi; exact ⟨0, rfl, .inl rfl, rfl⟩
        · cases hi; exact ⟨1, rfl, .inr rfl, rfl⟩
        · simp at hi
      rw [et]
      have hk : (([PyData.list ((rowOf (game l) n 0).map T.data), PyData.list ((rowOf (game l) n 1).map T.data)] : List D).take i).length ≤ 90000 := by rw [List.length_take]; exact Nat.le_trans (Nat.min_le_right _ _) (by show 2 ≤ 90000; decide)
      generalize ([PyData.list ((rowOf (game l) n 0).map T.data), PyData.list ((rowOf (game l) n 1).map T.data)] : List D).take i = done at hk ⊢
      refine xd_seq (xd_asg (d := .int (many n who : Int)) ?_ (.inr rfl) (fun q e => by cases e; show (2 : Nat) ≠ 4; decide)) (xd_seq (xd_asg (d := .int (l : Int)) ?_ (.inr rfl) (fun q e => by cases e; show (2 : Nat) ≠ 5; decide)) (xd_less (xd_appL (cs := (rowOf (game l) n who).map T.data) ?_ (by simp) hk) (by simp) ?_))
      · have w0 : 0 ≤ who := by rcases hw with h | h <;> omega
        have w1 : who ≤ 1000000 := by rcases hw with h | h <;> omega
        exact ed_op (ed_tup (eds_cons ed_int (eds_cons ed_int (eds_cons ed_int (eds_cons ed_int eds_nil)))) (by simp)) (ed_op (ed_call (eds_cons (ed_var rfl) (eds_cons (ed_var rfl) eds_nil)) ⟨n, who, rfl, w0, w1, rfl⟩) ed_int (rd_mod (by decide))) (rd_ixUT (many_at n who))
      · rw [← el]
        (repeat' (first
    | exact ed_var rfl | exact ed_int | exact ed_bl | exact ed_str | exact ed_non
    | exact eds_nil | with_reducible refine' eds_cons ?_ ?_
    | exact rd_addI | exact rd_sub | exact rd_ltI | exact rd_geI | exact rd_gtI | exact rd_le | exact rd_lt | exact rd_eqI | exact rd_neI | exact rd_eqS | exact rd_neS
    | exact rd_mulI (.inr ⟨by decide, by decide⟩) | exact rd_mulI (.inl ⟨by decide, by decide⟩) | exact rd_mod (by decide) | exact rd_div ⟨by decide, by decide⟩
    | exact ud_neg
    | exact et_yes
    | with_reducible refine' ed_op ?_ ?_ ?_ | with_reducible refine' ed_un ?_ ?_ | with_reducible refine' ed_tup ?_ ?_ | with_reducible refine' et_test ?_ | with_reducible refine' et_B ?_ | with_reducible refine ed_notV ?_ | with_reducible refine et_not ?_
    | exact cd_max2 | exact cd_min2 | exact cd_abs | exact cd_lenL | exact cd_lenT | exact cd_tupL | exact cd_tupT
    | exact ed_isi (by assumption) rfl
    | with_reducible refine' ed_cb ?_ ?_ ))
      · have ml := many_le n who
        have w0 : 0 ≤ who ∧ who ≤ 1 := by rcases hw with h | h <;> omega
        refine el_is (el_mapR1 (n := (many n who : Int)) (fun d => (game l (drawn n (10 + 4 * who + intD d))).data) (eds_cons (ed_var rfl) eds_nil) ⟨by omega, by omega⟩ fun d hd => ?_) (row_map (game l) n who)
        obtain ⟨i, hi, rfl⟩ := mem_rng hd
        refine ed_call (ds := [.int (drawn n (10 + 4 * who + (0 + (i : Int)))), .int (l : Int)]) (eds_cons (ed_call (ds := [.int n, .int (10 + 4 * who + (0 + (i : Int)))]) (eds_cons (ed_var rfl) (eds_cons ?_ eds_nil)) ⟨n, _, rfl, ?_, ?_, rfl⟩) (eds_cons (ed_var rfl) eds_nil)) ⟨_, l, rfl, (drawn_bd _ _).1, by omega, rfl⟩
        · (repeat' (first
    | exact ed_var rfl | exact ed_int | exact ed_bl | exact ed_str | exact ed_non
    | exact eds_nil | with_reducible refine' eds_cons ?_ ?_
    | exact rd_addI | exact rd_sub | exact rd_ltI | exact rd_geI | exact rd_gtI | exact rd_le | exact rd_lt | exact rd_eqI | exact rd_neI | exact rd_eqS | exact rd_neS
    | exact rd_mulI (.inr ⟨by decide, by decide⟩) | exact rd_mulI (.inl ⟨by decide, by decide⟩) | exact rd_mod (by decide) | exact rd_div ⟨by decide, by decide⟩
    | exact ud_neg
    | exact et_yes
    | with_reducible refine' ed_op ?_ ?_ ?_ | with_reducible refine' ed_un ?_ ?_ | with_reducible refine' ed_tup ?_ ?_ | with_reducible refine' et_test ?_ | with_reducible refine' et_B ?_ | with_reducible refine ed_notV ?_ | with_reducible refine et_not ?_
    | exact cd_max2 | exact cd_min2 | exact cd_abs | exact cd_lenL | exact cd_lenT | exact cd_tupL | exact cd_tupT
    | exact ed_isi (by assumption) rfl
    | with_reducible refine' ed_cb ?_ ?_ ))
        · omega
        · have : i < 2 := by simp at hi; omega
          omega
      · intro i d e
        exact set_less (by simp) i d (set_less (by simp) i d (set_less (by simp) i d e))
    · refine xd_ret (ed_call (eds_cons (ed_op (ed_var rfl) ed_int (rd_ixUL (d := .list ((rowOf (game l) n 0).map T.data)) rfl)) (eds_cons (ed_op (ed_var rfl) ed_int (rd_ixUL (d := .list ((rowOf (game l) n 1).map T.data)) rfl)) eds_nil)) ?_)
      exact ⟨_, _, rfl, fun t ht => (bd0.1 t ht).full, fun t ht => (bd1.1 t ht).full, dp 0, dp 1, by omega, by omega, rfl⟩
theorem has__law_game (B : BI mg) (F : Fun K "_law_game" "_law_game" sLawGame f fd) (b : Binds K fd ["_law_number", "_law_deep"] []) (hm : mg "_law_game" = some (.ref f))
    (h__law_drawn : Has P w K mg base k "_law_drawn" (SpR K RDrawn)) (h__law_by : Has P w K mg base k "_law_by" (SpR K RBy)) : ∀ dd : Nat, dd ≤ 20 → Has P w K mg base (k + dd) "_law_game" (SpR K (RGame dd))
  | 0, _ => has_none F b hm fun ds r h => by obtain ⟨_, d, _, _, h, _⟩ := h; omega
  | dd + 1, h => has__law_game1 B F b hm (by omega) (h__law_drawn.mono (Nat.le_add_right k dd)) (h__law_by.mono (Nat.le_add_right k dd)) (has__law_game B F b hm h__law_drawn h__law_by dd (by omega))
end
end LM

set_option Elab.async false
set_option linter.all false
set_option maxRecDepth 100000
set_option maxHeartbeats 4000000
namespace LM
open PySem PySem.Spec PyProof.Rows L2 Evl
/-! ### a game told otherwise -/
def mO : T := T.gm (T.set []) (T.set [T.gm [] []])
def smO (n : Int) : T := game 1 (n / 4)
def moO (n : Int) : T := game 1 (n / 64)
def otB (g : T) (n : Int) : Bool := decide (n % 4 = 0) && !(opt g 0).isEmpty
def otV (g : T) (n : Int) : T :=
  if otB g n = true then T.gm (T.set (opt g 0 ++ [adV ((opt g 0).headD (T.gm [] [])) mO])) (T.set (opt g 1))
  else if n % 4 = 1 then adV g (adV (smO n) (tnV (smO n)))
  else if n % 4 = 2 then T.gm (T.set (opt g 0 ++ [T.gm (T.set [smO n, moO n]) (T.set [g, moO n])])) (T.set (opt g 1))
  else T.gm (T.set (opt g 0)) (T.set (opt g 1 ++ [T.gm (T.set [g, moO n]) (T.set [smO n, moO n])]))
theorem T.G.gam : ∀ {m : Nat} {t : T}, T.G m t → isGm (m + 1) t = true
  | 0, t, h => by rw [show t = T.gm [] [] from h]; rfl
  | m + 1, t, h => by
    obtain ⟨ls, rs, rfl, _, _, _, _, h1, h2⟩ := h
    exact gm_of (fun x hx => T.G.gam (h1 x hx)) fun x hx => T.G.gam (h2 x hx)
theorem opt_gmv (a b : List T) (v : Int) : LM.opt (T.gm a b) v = if v = 0 then a else b := rfl
theorem T.G.opt {m : Nat} {t : T} (h : T.G (m + 1) t) (v : Int) : T.Asc (LM.opt t v) ∧ (LM.opt t v).length ≤ 2 ∧ ∀ x ∈ LM.opt t v, T.G m x := by
  obtain ⟨ls, rs, rfl, a1, a2, l1, l2, h1, h2⟩ := h
  rw [opt_gmv]
  split
  · exact ⟨a1, l1, h1⟩
  · exact ⟨a2, l2, h2⟩
def ROther (Gp Gt : T → Prop) (ds : List D) (r : D) : Prop := ∃ (g : T) (n : Int), ds = [g.data, .int n] ∧ 0 ≤ n ∧ T.G 2 g ∧ Gp g ∧ Gp mO ∧ Gp (smO n) ∧ Gp (tnV (smO n)) ∧ Gp (adV (smO n) (tnV (smO n))) ∧ Gt (smO n) ∧ r = (otV g n).data
section
variable {K : PySem.W.Frag} {ρ ρ1 : Rx} {μ μ1 μ2 : Mu} {t u w : TS} {x : SV} {tt : TT} {te : TE}
theorem xe_seq (h : XM K t ρ μ (.nx ρ1 μ1)) (k : ∃ m, XM K u ρ1 μ1 (.rt x m)) : ∃ m, XM K (tSeq t u) ρ μ (.rt x m) := k.elim fun m k => ⟨m, xm_seq h k⟩
theorem xe_ifs {b : Bool} (h : TX K tt ρ μ b μ1) (h1 : b = true → ∃ m, XM K (tSeq t w) ρ μ1 (.rt x m)) (h2 : b = false → ∃ m, XM K (tSeq u w) ρ μ1 (.rt x m)) : ∃ m, XM K (tSeq (tIfS tt t u) w) ρ μ (.rt x m) := by
  cases b with
  | true => exact (h1 rfl).elim fun m k => ⟨m, xm_ifs h (fun _ => k) fun z => nomatch z⟩
  | false => exact (h2 rfl).elim fun m k => ⟨m, xm_ifs h (fun z => nomatch z) fun _ => k⟩
theorem xe_assoc (h : ∃ m, XM K (tSeq t (tSeq u w)) ρ μ (.rt x m)) : ∃ m, XM K (tSeq (tSeq t u) w) ρ μ (.rt x m) := h
theorem xe_nexts (h : ∃ m, XM K w ρ μ (.rt x m)) : ∃ m, XM K (tSeq tNext w) ρ μ (.rt x m) := h.elim fun m k => ⟨m, xm_nexts k⟩
theorem xe_rets {x' : SV} (h : EX K te ρ μ x' μ2) (e : x' = x) : ∃ m, XM K (tSeq (tRet te) w) ρ μ (.rt x m) := e ▸ ⟨_, xm_rets h⟩
theorem xe_ret {x' : SV} (h : EX K te ρ μ x' μ2) (e : x' = x) : ∃ m, XM K (tRet te) ρ μ (.rt x m) := e ▸ ⟨_, xm_ret h⟩
end
/-! ### _law_otherwise -/
abbrev sLawOtherwise : Stmt := topS 18
abbrev nLawOtherwise : List Str := ["_law_game_here", "_law_number", "_law_kind", "_law_small", "_law_more", "_law_worse"]
theorem scLawOtherwise : FnScope nLawOtherwise ["_law_game_here", "_law_number"] (defScope sLawOtherwise) := ⟨rfl, rfl, rfl, by decide +kernel, rfl, by decide +kernel, by decide +kernel⟩
section
variable {P : Program} {w : World} {K : PySem.W.Frag} {mg : Str → Option Value} {base : Heap} {f : Addr} {fd : FuncData} {k j : Nat} {Gp Gt : T → Prop}
theorem gs__law_otherwise (B : BI mg) (GP : SumOk Gp) (GT : TnOk w Gt) (F : Fun K "_law_otherwise" "_law_otherwise" sLawOtherwise f fd) (b : Binds K fd ["_law_game_here", "_law_number"] []) (hm : mg "_law_otherwise" = some (.ref f)) (h__law_turned : Has P w K mg base k "_law_turned" (SpR K (RTurned Gt 21)))
    (h__law_by : Has P w K mg base k "_law_by" (SpR K RByA)) (h__law_game : Has P w K mg base k "_law_game" (SpR K (RGame 4))) (h__law_sum : HasG P w K mg base k "_law_sum" (SpM K (RSum K Gp 41))) : HasG P w K mg base (k + 1) "_law_otherwise" (SpR K (ROther Gp Gt)) := by
  refine ⟨f, fd, _, gn_ofP F scLawOtherwise (by decide) (fun ds r h => by obtain ⟨_, _, rfl, _⟩ := h; rfl) (fun cdv A outer s H E gd hr => ⟨_, (pss_cons (ps_set (i := 2) scLawOtherwise.nd rfl (by first | exact .inl rfl | exact .inr rfl) (pe_op op_mod (pv 1) pe_int))
    (pss_cons (ps_set (i := 3) scLawOtherwise.nd rfl (by first | exact .inl rfl | exact .inr rfl) (pe_h h__law_game hr (by omega) (by rfl) (pa_cons (pe_op op_fdiv (pv 1) pe_int) (pa_cons pe_int pa_nil))))
    (pss_cons (ps_set (i := 4) scLawOtherwise.nd rfl (by first | exact .inl rfl | exact .inr rfl) (pe_h h__law_game hr (by omega) (by rfl) (pa_cons (pe_op op_fdiv (pv 1) pe_int) (pa_cons pe_int pa_nil))))
    (pss_cons (ps_if (pw_and (pt_cmpR (op_eqK K rfl (hu64 hr)) (pv 2) pe_int (nomark _)) (pw_and1 (pt_cmpR (op_neK K rfl (hu64 hr)) (pe_ix (ix_K K rfl) (pv 0) pe_int (fun _ _ => rfl)) (pe_tup pa_nil) (nomark _)))).pt (pss_cons (ps_set (i := 5) scLawOtherwise.nd rfl (by first | exact .inl rfl | exact .inr rfl) (pe_hG h__law_sum gd hr (by omega) (by rfl) (pa_cons (pe_ix (ix_K K rfl) (pe_ix (ix_K K rfl) (pv 0) pe_int (fun _ _ => rfl)) pe_int (fun _ _ => rfl)) (pa_cons (pe_h h__law_by hr (by omega) (by rfl) (pa_cons (pe_lst pa_nil) (pa_cons (pe_lst (pa_cons (pe_tup (pa_cons (pe_tup pa_nil) (pa_cons (pe_tup pa_nil) pa_nil))) pa_nil)) pa_nil))) (pa_cons pe_dnewK pa_nil)))))
    (pss_one (ps_ret (pe_h h__law_by hr (by omega) (by rfl) (pa_cons (pe_op (op_addK K rfl) (pe_ix (ix_K K rfl) (pv 0) pe_int (fun _ _ => rfl)) (pe_tup (pa_cons (pv 5) pa_nil))) (pa_cons (pe_ix (ix_K K rfl) (pv 0) pe_int (fun _ _ => rfl)) pa_nil)))))) pss_nil)
    (pss_cons (ps_if (pt_cmpR (op_eqK K rfl (hu64 hr)) (pv 2) pe_int (nomark _)) (pss_one (ps_ret (pe_hG h__law_sum gd hr (by omega) (by rfl) (pa_cons (pv 0) (pa_cons (pe_hG h__law_sum gd hr (by omega) (by rfl) (pa_cons (pv 3) (pa_cons (pe_h h__law_turned hr (by omega) (by rfl) (pa_cons (pv 3) pa_nil)) (pa_cons pe_dnewK pa_nil)))) (pa_cons pe_dnewK pa_nil)))))) pss_nil)
    (pss_cons (ps_if (pt_cmpR (op_eqK K rfl (hu64 hr)) (pv 2) pe_int (nomark _)) (pss_one (ps_ret (pe_h h__law_by hr (by omega) (by rfl) (pa_cons (pe_op (op_addK K rfl) (pe_ix (ix_K K rfl) (pv 0) pe_int (fun _ _ => rfl)) (pe_tup (pa_cons (pe_h h__law_by hr (by omega) (by rfl) (pa_cons (pe_lst (pa_cons (pv 3) (pa_cons (pv 4) pa_nil))) (pa_cons (pe_lst (pa_cons (pv 0) (pa_cons (pv 4) pa_nil))) pa_nil))) pa_nil))) (pa_cons (pe_ix (ix_K K rfl) (pv 0) pe_int (fun _ _ => rfl)) pa_nil))))) pss_nil)
    (pss_one (ps_ret (pe_h h__law_by hr (by omega) (by rfl) (pa_cons (pe_ix (ix_K K rfl) (pv 0) pe_int (fun _ _ => rfl)) (pa_cons (pe_op (op_addK K rfl) (pe_ix (ix_K K rfl) (pv 0) pe_int (fun _ _ => rfl)) (pe_tup (pa_cons (pe_h h__law_by hr (by omega) (by rfl) (pa_cons (pe_lst (pa_cons (pv 0) (pa_cons (pv 4) pa_nil))) (pa_cons (pe_lst (pa_cons (pv 3) (pa_cons (pv 4) pa_nil))) pa_nil))) pa_nil))) pa_nil))))))))))), fun ds r h => ?_⟩), hm, F.kp, b⟩
  try dsimp only [cxOf, Cx.nox, Cx.wish]
  obtain ⟨g, n, rfl, hn, gg, pg, pm, ps, pt, pz, gt, rfl⟩ := h
  obtain ⟨l0, e0, h0⟩ := opt_data gg.gam (w := 0) (.inl rfl)
  obtain ⟨l1, e1, h1⟩ := opt_data gg.gam (w := 1) (.inr rfl)
  have n0 : 0 ≤ n / 4 ∧ 0 ≤ n / 64 := by omega
  have gs : T.G 1 (smO n) := game_G 1 _
  have gm : T.G 1 (moO n) := game_G 1 _
  have o0 := gg.opt 0
  have o1 := gg.opt 1
  have f0 : ∀ t ∈ opt g 0, full t = true := fun t ht => (o0.2.2 t ht).full
  have f1 : ∀ t ∈ opt g 1, full t = true := fun t ht => (o1.2.2 t ht).full
  have d0 : ∀ t ∈ opt g 0, t.depth ≤ 20 := fun t ht => by have := (o0.2.2 t ht).depth; omega
  have d1 : ∀ t ∈ opt g 1, t.depth ≤ 20 := fun t ht => by have := (o1.2.2 t ht).depth; omega
  have ds : (smO n).depth ≤ 20 := by have := gs.depth; omega
  have dm : (moO n).depth ≤ 20 := by have := gm.depth; omega
  have dg : g.depth ≤ 20 := by have := gg.depth; omega
  have two : ∀ a b : T, full a = true → full b = true → a.depth ≤ 20 → b.depth ≤ 20 → (∀ t ∈ [a, b], full t = true) ∧ T.depths [a, b] ≤ 60 := fun a b fa fb da db => by
    refine ⟨fun t ht => ?_, T.depths_le fun t ht => ?_⟩
    · rcases List.mem_cons.mp ht with rfl | ht
      · exact fa
      · rw [List.mem_singleton.mp ht]; exact fb
    · rcases List.mem_cons.mp ht with rfl | ht
      · omega
      · rw [List.mem_singleton.mp ht]; omega
  have tSM := two (smO n) (moO n) gs.full gm.full ds dm
  have tGM := two g (moO n) gg.full gm.full dg dm
  have gmD : ∀ a b : List T, (∀ t ∈ a, t.depth ≤ 20) → (∀ t ∈ b, t.depth ≤ 20) → (T.gm (T.set a) (T.set b)).depth ≤ 30 := fun a b ha hb => by
    rw [gm_depth]
    have h1 : T.depths (T.set a) ≤ 20 := T.depths_le fun t ht => ha t (T.mem_set.mp ht)
    have h2 : T.depths (T.set b) ≤ 20 := T.depths_le fun t ht => hb t (T.mem_set.mp ht)
    omega
  have in2 : ∀ {a b : T}, a.depth ≤ 20 → b.depth ≤ 20 → ∀ t ∈ [a, b], t.depth ≤ 20 := fun da db t ht => by
    rcases List.mem_cons.mp ht with rfl | ht
    · exact da
    · rw [List.mem_singleton.mp ht]; exact db
  have one : ∀ (l : List T) (x : T), (∀ t ∈ l, full t = true) → (∀ t ∈ l, t.depth ≤ 20) → full x = true → x.depth ≤ 60 → l.length ≤ 2 → (∀ t ∈ l ++ [x], full t = true) ∧ T.depths (l ++ [x]) ≤ 60 ∧ (l ++ [x]).length ≤ 50000 := fun l x fl dl fx dx ll => ⟨fun t ht => (List.mem_append.mp ht).elim (fl t) fun h => by rw [List.mem_singleton.mp h]; exact fx, T.depths_le fun t ht => (List.mem_append.mp ht).elim (fun h => Nat.le_trans (dl t h) (by decide)) fun h => by rw [List.mem_singleton.mp h]; exact dx, by rw [List.length_append, List.length_singleton]; omega⟩
  have D0 : T.depths (opt g 0) ≤ 60 := T.depths_le fun t ht => Nat.le_trans (d0 t ht) (by decide)
  have D1 : T.depths (opt g 1) ≤ 60 := T.depths_le fun t ht => Nat.le_trans (d1 t ht) (by decide)
  have shT : ∀ l : List T, (∀ t ∈ l, t.depth ≤ 20) → SeqAt.shaped (.tuple (l.map T.data)) = true := fun l hl => (fit_tup.mpr (fit_Ts (T.depths_le hl))).shaped (by decide)
  have sq : ∀ l : List T, SeqD l (.list (l.map T.data)) := fun l => .inl rfl
  have sqt : ∀ l : List T, SeqD l (.tuple (l.map T.data)) := fun l => .inr rfl
  refine (show ∃ m, XM K _ [some (.d g.data), some (.d (.int n)), none, none, none, none] [] (.rt (.d (otV g n).data) m) from ?_)
  refine xe_seq (ρ1 := [some (.d g.data), some (.d (.int n)), some (.d (.int (n % 4))), none, none, none]) (μ1 := []) (xm_asg (ex_pure (ed_op (ed_var rfl) ed_int (rd_mod (by decide))))) ?_
  refine xe_seq (ρ1 := [some (.d g.data), some (.d (.int n)), some (.d (.int (n % 4))), some (.d (smO n).data), none, none]) (μ1 := []) (xm_asg (ex_pure (ed_call (ds := [.int (n / 4), .int ((1 : Nat) : Int)]) (eds_cons (ed_op (ed_var (i := 1) rfl) ed_int (rd_div ⟨by decide, by decide⟩)) (eds_cons ed_int eds_nil)) ⟨n / 4, 1, rfl, n0.1, by decide, rfl⟩))) ?_
  refine xe_seq (ρ1 := [some (.d g.data), some (.d (.int n)), some (.d (.int (n % 4))), some (.d (smO n).data), some (.d (moO n).data), none]) (μ1 := []) (xm_asg (ex_pure (ed_call (ds := [.int (n / 64), .int ((1 : Nat) : Int)]) (eds_cons (ed_op (ed_var (i := 1) rfl) ed_int (rd_div ⟨by decide, by decide⟩)) (eds_cons ed_int eds_nil)) ⟨n / 64, 1, rfl, n0.2, by decide, rfl⟩))) ?_
  refine xe_ifs (b := otB g n) (μ1 := []) (tx_pure (et_is' (et_and (x := decide (n % 4 = 0)) (y := !PyData.eqv (.tuple ((opt g 0).map T.data)) (.tuple [])) (et_test (ed_op (ed_var (i := 2) rfl) ed_int rd_eqI)) fun _ => et_test (ed_op (ed_op (ed_var (i := 0) rfl) ed_int (rd_ixUT' e0 h0)) (ed_tup eds_nil) (rd_neU (shT _ d0) (by rfl)))) ?_)) (fun c => ?_) (fun c => ?_)
  · unfold otB
    congr 2
    cases opt g 0 with
    | nil => rw [List.map_nil, eqv_tup]; rfl
    | cons x l => rw [List.map_cons, eqv_tup]; rfl
  · have ev : otV g n = T.gm (T.set (opt g 0 ++ [adV ((opt g 0).headD (T.gm [] [])) mO])) (T.set (opt g 1)) := by unfold otV; rw [if_pos c]
    have ne : opt g 0 ≠ [] := fun e => by unfold otB at c; rw [e, Bool.and_eq_true] at c; cases c.2
    obtain ⟨x, l, ex⟩ : ∃ x l, opt g 0 = x :: l := by
      cases h : opt g 0 with
      | nil => exact absurd h ne
      | cons x l => exact ⟨x, l, rfl⟩
    have hx : x ∈ opt g 0 := by rw [ex]; exact List.mem_cons_self
    have px : Gp x := GP.cl g pg 0 x hx
    rw [ev]
    rw [show (opt g 0).headD (T.gm [] []) = x by rw [ex]; rfl]
    refine xe_assoc (xe_seq (ρ1 := [some (.d g.data), some (.d (.int n)), some (.d (.int (n % 4))), some (.d (smO n).data), some (.d (moO n).data), some (.d (adV x mO).data)]) (μ1 := [smC K Gp]) (xm_asg (ex_sm (N := 41) (i := 0) (μ := [smC K Gp]) px pm (GP.bd _ px) (GP.bd _ pm) (by decide) (by decide) (by decide) rfl
      (exs_cons (ex_pure (ed_op (ed_op (ed_var (i := 0) rfl) ed_int (rd_ixUT' e0 h0)) ed_int (rd_ixUT (by rw [ex]; exact atI_z (by decide) rfl)))) (exs_cons (ex_pure (ed_call (ds := [.list [], .list [.tuple [.tuple [], .tuple []]]]) (eds_cons (ed_el (el_lst eds_nil)) (eds_cons (ed_el (el_lst (eds_cons (ed_tup (eds_cons (ed_tup eds_nil) (eds_cons (ed_tup eds_nil) eds_nil))) eds_nil))) eds_nil)) ⟨[], [T.gm [] []], _, _, rfl, .inl rfl, .inl rfl, fun t ht => (by cases ht), fun t ht => (by rw [List.mem_singleton.mp ht]; rfl), by decide, by decide, by decide, by decide, rfl⟩)) (exs_cons ex_newS exs_nil))))) ?_)
    obtain ⟨k1, k2, k3⟩ := one (opt g 0) (adV x mO) f0 d0 (adV_full _ _) (Nat.le_trans (GP.sum x mO px pm) (by decide)) o0.2.1
    exact xe_rets (ex_pure (ed_call (ds := [.tuple ((opt g 0 ++ [adV x mO]).map T.data), .tuple ((opt g 1).map T.data)]) (eds_cons (ed_is (ed_op (ed_op (ed_var (i := 0) rfl) ed_int (rd_ixUT' e0 h0)) (ed_tup (eds_cons (ed_var (i := 5) rfl) eds_nil) (by simp)) (rd_addT (by rw [List.length_map]; have := o0.2.1; simp; omega))) (by rw [List.map_append]; rfl)) (eds_cons (ed_op (ed_var (i := 0) rfl) ed_int (rd_ixUT' e1 h1)) eds_nil)) ⟨_, _, _, _, rfl, sqt _, sqt _, k1, f1, k2, D1, k3, by have := o1.2.1; omega, rfl⟩)) rfl
  refine xe_nexts (xe_ifs (b := decide (n % 4 = 1)) (μ1 := []) (tx_pure (et_test (ed_op (ed_var (i := 2) rfl) ed_int rd_eqI))) (fun c1 => ?_) (fun c1 => ?_))
  · have ev : otV g n = adV g (adV (smO n) (tnV (smO n))) := by unfold otV; rw [if_neg (by rw [c]; decide), if_pos (of_decide_eq_true c1)]
    rw [ev]
    exact xe_rets (ex_sm (N := 41) (i := 1) (μ := [smC K Gp, smC K Gp]) pg pz (GP.bd _ pg) (GP.bd _ pz) (by decide) (by decide) (by decide) rfl
      (exs_cons (ex_var (i := 0) rfl) (exs_cons (ex_sm (N := 41) (i := 0) (μ := [smC K Gp]) ps pt (GP.bd _ ps) (GP.bd _ pt) (by decide) (by decide) (by decide) rfl (exs_cons (ex_var (i := 3) rfl) (exs_cons (ex_pure (ed_call (eds_cons (ed_var (i := 3) rfl) eds_nil) ⟨smO n, 20, rfl, gt, GT.bd _ gt, by decide, by decide, rfl⟩)) (exs_cons ex_newS exs_nil)))) (exs_cons ex_newS exs_nil)))) rfl
  refine xe_nexts (xe_ifs (b := decide (n % 4 = 2)) (μ1 := []) (tx_pure (et_test (ed_op (ed_var (i := 2) rfl) ed_int rd_eqI))) (fun c2 => ?_) (fun c2 => ?_))
  · have ev : otV g n = T.gm (T.set (opt g 0 ++ [T.gm (T.set [smO n, moO n]) (T.set [g, moO n])])) (T.set (opt g 1)) := by unfold otV; rw [if_neg (by rw [c]; decide), if_neg (of_decide_eq_false c1), if_pos (of_decide_eq_true c2)]
    rw [ev]
    obtain ⟨k1, k2, k3⟩ := one (opt g 0) (T.gm (T.set [smO n, moO n]) (T.set [g, moO n])) f0 d0 rfl (Nat.le_trans (gmD _ _ (in2 ds dm) (in2 dg dm)) (by decide)) o0.2.1
    exact xe_rets (ex_pure (ed_call (ds := [.tuple ((opt g 0 ++ [T.gm (T.set [smO n, moO n]) (T.set [g, moO n])]).map T.data), .tuple ((opt g 1).map T.data)]) (eds_cons (ed_is (ed_op (ed_op (ed_var (i := 0) rfl) ed_int (rd_ixUT' e0 h0)) (ed_tup (eds_cons (ed_call (ds := [.list [(smO n).data, (moO n).data], .list [g.data, (moO n).data]]) (eds_cons (ed_el (el_lst (eds_cons (ed_var (i := 3) rfl) (eds_cons (ed_var (i := 4) rfl) eds_nil)) (by simp))) (eds_cons (ed_el (el_lst (eds_cons (ed_var (i := 0) rfl) (eds_cons (ed_var (i := 4) rfl) eds_nil)) (by simp))) eds_nil)) ⟨[smO n, moO n], [g, moO n], _, _, rfl, .inl rfl, .inl rfl, tSM.1, tGM.1, tSM.2, tGM.2, by simp, by simp, rfl⟩) eds_nil) (by simp)) (rd_addT (by rw [List.length_map]; have := o0.2.1; simp; omega))) (by rw [List.map_append]; rfl)) (eds_cons (ed_op (ed_var (i := 0) rfl) ed_int (rd_ixUT' e1 h1)) eds_nil)) ⟨_, _, _, _, rfl, sqt _, sqt _, k1, f1, k2, D1, k3, by have := o1.2.1; omega, rfl⟩)) rfl
  · have ev : otV g n = T.gm (T.set (opt g 0)) (T.set (opt g 1 ++ [T.gm (T.set [g, moO n]) (T.set [smO n, moO n])])) := by unfold otV; rw [if_neg (by rw [c]; decide), if_neg (of_decide_eq_false c1), if_neg (of_decide_eq_false c2)]
    rw [ev]
    obtain ⟨k1, k2, k3⟩ := one (opt g 1) (T.gm (T.set [g, moO n]) (T.set [smO n, moO n])) f1 d1 rfl (Nat.le_trans (gmD _ _ (in2 dg dm) (in2 ds dm)) (by decide)) o1.2.1
    exact xe_nexts (xe_ret (ex_pure (ed_call (ds := [.tuple ((opt g 0).map T.data), .tuple ((opt g 1 ++ [T.gm (T.set [g, moO n]) (T.set [smO n, moO n])]).map T.data)]) (eds_cons (ed_op (ed_var (i := 0) rfl) ed_int (rd_ixUT' e0 h0)) (eds_cons (ed_is (ed_op (ed_op (ed_var (i := 0) rfl) ed_int (rd_ixUT' e1 h1)) (ed_tup (eds_cons (ed_call (ds := [.list [g.data, (moO n).data], .list [(smO n).data, (moO n).data]]) (eds_cons (ed_el (el_lst (eds_cons (ed_var (i := 0) rfl) (eds_cons (ed_var (i := 4) rfl) eds_nil)) (by simp))) (eds_cons (ed_el (el_lst (eds_cons (ed_var (i := 3) rfl) (eds_cons (ed_var (i := 4) rfl) eds_nil)) (by simp))) eds_nil)) ⟨[g, moO n], [smO n, moO n], _, _, rfl, .inl rfl, .inl rfl, tGM.1, tSM.1, tGM.2, tSM.2, by simp, by simp, rfl⟩) eds_nil) (by simp)) (rd_addT (by rw [List.length_map]; have := o1.2.1; simp; omega))) (by rw [List.map_append]; rfl)) eds_nil)) ⟨_, _, _, _, rfl, sqt _, sqt _, f0, k1, D0, k2, by have := o0.2.1; omega, k3, rfl⟩)) rfl)
end
end LM

set_option Elab.async false
set_option linter.all false
set_option maxRecDepth 100000
set_option maxHeartbeats 4000000
namespace LM
open PySem PySem.Spec PyProof.Rows L2 Evl
/-! ### games drawn, games told otherwise: they have runs -/
theorem sub_mem : ∀ {L l : List T}, l.Sublist L → l ∈ subsT L
  | _, _, .slnil => List.mem_singleton.mpr rfl
  | _ :: _, _, .cons _ h => List.mem_append_left _ (sub_mem h)
  | _ :: _, _ :: l, .cons₂ _ h => List.mem_append_right _ (List.mem_map.mpr ⟨l, sub_mem h, rfl⟩)
theorem asc_sub {L l : List T} (hL : T.Asc L) (hl : T.Asc l) (h : ∀ x ∈ l, x ∈ L) : l.Sublist L := by
  have e : l = L.filter (inL l) := T.asc_ext hl (hL.sublist List.filter_sublist) fun x => ⟨fun hx => List.mem_filter.mpr ⟨h x hx, in_inL hx⟩, fun hx => inL_ok (List.mem_filter.mp hx).2⟩
  have s : (L.filter (inL l)).Sublist L := List.filter_sublist
  rwa [← e] at s
theorem g1_b1 {t : T} (h : T.G 1 t) : t ∈ B1 := by
  obtain ⟨ls, rs, rfl, a1, a2, _, _, h1, h2⟩ := h
  have z : ∀ l : List T, T.Asc l → (∀ x ∈ l, T.G 0 x) → l = [] ∨ l = [Z0] := fun l ha hx => by
    match l, ha, hx with
    | [], _, _ => exact .inl rfl
    | [a], _, hx => exact .inr (by rw [show a = Z0 from hx a List.mem_cons_self])
    | a :: b :: l, ha, hx =>
      have nd := ha.nodup
      rw [List.nodup_cons] at nd
      have ea : a = Z0 := hx a List.mem_cons_self
      have eb : b = Z0 := hx b (List.mem_cons_of_mem _ List.mem_cons_self)
      exact absurd (by rw [ea, eb]; exact List.mem_cons_self) nd.1
  refine T.mem_set.mpr ?_
  rcases z ls a1 h1 with rfl | rfl <;> rcases z rs a2 h2 with rfl | rfl
  · exact .head _
  · exact .tail _ (.head _)
  · exact .tail _ (.tail _ (.head _))
  · exact .tail _ (.tail _ (.tail _ (.head _)))
theorem g2_121 {t : T} (h : T.G 2 t) : t ∈ g121 := by
  obtain ⟨ls, rs, rfl, a1, a2, l1, l2, h1, h2⟩ := h
  have sd : ∀ l : List T, T.Asc l → l.length ≤ 2 → (∀ x ∈ l, T.G 1 x) → l ∈ sub2 := fun l a ll hx => List.mem_filter.mpr ⟨sub_mem (asc_sub (T.asc_set _) a fun x h => g1_b1 (hx x h)), decide_eq_true ll⟩
  exact List.mem_flatMap.mpr ⟨ls, sd ls a1 l1 h1, List.mem_map.mpr ⟨rs, sd rs a2 l2 h2, rfl⟩⟩
theorem g121_day {t : T} (h : t ∈ g121) : t ∈ dayL := by
  obtain ⟨p, hp, h⟩ := List.mem_flatMap.mp h
  obtain ⟨q, hq, rfl⟩ := List.mem_map.mp h
  exact List.mem_flatMap.mpr ⟨p, (List.mem_filter.mp hp).1, List.mem_map.mpr ⟨q, (List.mem_filter.mp hq).1, rfl⟩⟩
theorem g2_day {t : T} (h : T.G 2 t) : t ∈ dayL := g121_day (g2_121 h)
def RunEx (w : World) (t : T) : Prop := ∃ (Gp : T → Prop) (U3 U4 : List T), RunOk w Gp U3 U4 ∧ Gp t
def GpO (one t : T) : Prop := t ∈ dayL ∨ t = one
theorem one_run {w : World} {one : T} {U3 U4 : List T} (h : T.G 3 one) (S : Shape U3 U4) (H : HashD (DD U3 U4)) (he : GmD U3 U4 (hereV one)) : RunOk w (GpO one) U3 U4 := by
  have bd : ∀ t, GpO one t → isGm 4 t = true := fun t ht => ht.elim (fun h => gm_mono (day_gp h) (by decide)) fun e => by rw [e]; exact h.gam
  have nar : ∀ t, GpO one t → ∀ v, (opt t v).length ≤ 4 := fun t ht v => by
    rcases ht with k | rfl
    · exact (day_s k).few v
    · have := (h.opt v).2.1; omega
  have hh : ∀ t, GpO one t → GmD U3 U4 (hereV t) := fun t ht => ht.elim (fun h => .inl (here_day h)) fun e => by rw [e]; exact he
  refine ⟨fun t ht v x hx => ?_, fun t ht => gm_mono (bd t ht) (by decide), fun t ht v => by have := nar t ht v; omega, fun t ht v => by have := nar t ht v; omega, ?_, hh, fun t ht v x hx => kid_of S (hh t ht) hx, S, H⟩
  · rcases ht with k | rfl
    · exact .inl (b1_s ((day_s k).kid v x hx)).2.1
    · exact .inl (g2_day ((h.opt v).2.2 x hx))
  · have l1 := of_decide_eq_true k_len
    refine game_fam (one :: dayL) (by rw [List.length_cons]; omega) (fun t ht => ht.elim (fun h => List.mem_cons_of_mem _ h) fun e => by rw [e]; exact List.mem_cons_self) (.inl bd)
theorem hash_nil : HashD (DD [] []) := ⟨fun p hp => (by cases hp), fun p hp => (by cases hp)⟩
theorem shape_nil : Shape [] [] := ⟨fun u h => (by cases h), fun u h => (by cases h), fun u h => (by cases h), fun u h => (by cases h), fun u h => (by cases h), fun u h => (by cases h), fun u h => (by cases h), fun u h => (by cases h), fun u h => (by cases h), Nat.zero_le _⟩
theorem k_dd1 : decide (B1.length ≤ 100) = true := by decide +kernel
theorem drawn_run {w : World} {one : T} (h : T.G 3 one) : RunEx w one := by
  have side : ∀ v, v = 0 ∨ v = 1 → opt (hereV one) v ∈ sideL ∧ (opt (hereV one) v).length ≤ 2 ∧ ∀ x ∈ opt (hereV one) v, x ∈ B2 := fun v hv => by
    have mem : ∀ x ∈ opt (hereV one) v, x ∈ B2 := fun x hx => by
      obtain ⟨y, hy, rfl⟩ := (opt_here hv).mp hx
      exact b2_of (g2_day ((h.opt v).2.2 y hy))
    have e : opt (hereV one) v = T.set ((opt one v).map plainV) := by rcases hv with rfl | rfl <;> rfl
    have len : (opt (hereV one) v).length ≤ 2 := by
      rw [e]
      refine Nat.le_trans (T.set_len _) ?_
      rw [List.length_map]
      exact (h.opt v).2.1
    exact ⟨side_mem (by rw [e]; exact T.asc_set _) len mem, len, mem⟩
  obtain ⟨s0, l0, m0⟩ := side 0 (.inl rfl)
  obtain ⟨s1, l1, m1⟩ := side 1 (.inr rfl)
  have eh : hereV one = T.gm (opt (hereV one) 0) (opt (hereV one) 1) := rfl
  cases b0 : (opt (hereV one) 0).all (inL B1) && (opt (hereV one) 1).all (inL B1) with
  | true =>
    rw [Bool.and_eq_true] at b0
    have := List.all_eq_true.mp (List.all_eq_true.mp k_sideB _ (List.mem_filter.mpr ⟨s0, b0.1⟩)) _ (List.mem_filter.mpr ⟨s1, b0.2⟩)
    exact ⟨GpO one, [], [], one_run h shape_nil hash_nil (.inl (by rw [eh]; exact inL_ok this)), .inr rfl⟩
  | false =>
    have ok : okH (hU (hereV one)) = true := by
      rw [eh]
      cases c0 : (opt (hereV one) 0).all (inL B1) with
      | false =>
        have mo : opt (hereV one) 0 ∈ sideO := List.mem_filter.mpr ⟨s0, by rw [c0]; rfl⟩
        have dt : ∀ (n : Nat) (l : List (List T)), opt (hereV one) 0 ∈ l → opt (hereV one) 0 ∈ l.take n ∨ opt (hereV one) 0 ∈ l.drop n := fun n l hm => by
          rw [← List.take_append_drop n l] at hm
          exact List.mem_append.mp hm
        rcases dt 61 _ mo with k | k
        · exact allHere_ok k_h3a k s1
        · rcases dt 61 _ k with k | k
          · exact allHere_ok k_h3b k s1
          · rcases dt 61 _ k with k | k
            · exact allHere_ok k_h3c k s1
            · exact allHere_ok k_h3d k s1
      | true =>
        rw [c0, Bool.true_and] at b0
        exact allHere_ok k_h3e (List.mem_filter.mpr ⟨s0, c0⟩) (List.mem_filter.mpr ⟨s1, by rw [b0]; rfl⟩)
    have g4 : isGm 4 (hereV one) = true := by
      rw [eh]
      exact gm_of (fun x hx => gm_mono (day_gp (b2_day (m0 x hx))) (by decide)) fun x hx => gm_mono (day_gp (b2_day (m1 x hx))) (by decide)
    have two : ∀ {p : List T → Prop}, p (opt (hereV one) 0) → p (opt (hereV one) 1) → ∀ v, p (opt (hereV one) v) := fun h0 h1 v => two_v h0 h1 v
    have S : Shape [hereV one] [] := by
      have on : ∀ {u : T}, u ∈ [hereV one] → u = hereV one := fun h => List.mem_singleton.mp h
      refine ⟨fun u hu => by rw [on hu]; exact g4, fun u h => (by cases h), fun u hu v => ?_, fun u h => (by cases h), fun u hu v x hx => ?_, fun u h => (by cases h), fun u hu v => ?_, fun u h => (by cases h), fun u h => (by cases h), ?_⟩
      · rw [on hu]
        exact two (p := fun l => l.length < 64) (by omega) (by omega) v
      · rw [on hu] at hx
        exact two (p := fun l => ∀ x ∈ l, x ∈ B2) m0 m1 v x hx
      · rw [on hu]
        exact two (p := fun l => blks l ≤ 180) (sides_blk l0 m0) (sides_blk l1 m1) v
      · have := of_decide_eq_true k_dd1
        show ((([hereV one] ++ ([] : List T)).flatMap sdD) ++ ([] : List T).flatMap exD).length ≤ 10000
        rw [List.append_nil, List.flatMap_nil, List.append_nil, List.flatMap_cons, List.flatMap_nil, List.append_nil]
        unfold sdD
        rw [List.length_append, List.length_map, List.length_map]
        omega
    exact ⟨GpO one, [hereV one], [], one_run h S (hash_one ok) (.inr (.inl List.mem_cons_self)), .inr rfl⟩
/-! ### told otherwise -/
theorem chunk_mem {x : T} : ∀ (n m : Nat) (l : List T), x ∈ l → l.length ≤ n * m → ∃ i, i < n ∧ x ∈ (l.drop (m * i)).take m
  | 0, m, l, hx, h => by
    rw [Nat.zero_mul] at h
    rw [List.length_eq_zero_iff.mp (Nat.le_zero.mp h)] at hx
    cases hx
  | n + 1, m, l, hx, h => by
    rw [← List.take_append_drop m l] at hx
    rcases List.mem_append.mp hx with k | k
    · exact ⟨0, Nat.zero_lt_succ _, by rw [Nat.mul_zero]; exact k⟩
    · obtain ⟨i, hi, hm⟩ := chunk_mem n m (l.drop m) k (by rw [List.length_drop]; rw [Nat.succ_mul] at h; omega)
      refine ⟨i + 1, by omega, ?_⟩
      rw [List.drop_drop] at hm
      rw [Nat.mul_succ, Nat.add_comm]
      exact hm
theorem k_121 : decide (g121.length ≤ 121) = true := by decide +kernel
theorem chunk_121 {g : T} (h : g ∈ g121) : ∃ i, i < 11 ∧ g ∈ (g121.drop (11 * i)).take 11 := chunk_mem 11 11 g121 h (of_decide_eq_true k_121)
theorem chunk_all {p : T → Bool} (h : ∀ i, i < 11 → (((g121.drop (11 * i)).take 11).all p) = true) {g : T} (hg : g ∈ g121) : p g = true := by
  obtain ⟨i, hi, hm⟩ := chunk_121 hg
  exact List.all_eq_true.mp (h i hi) g hm
theorem of11 {p : Nat → Prop} (h0 : p 0) (h1 : p 1) (h2 : p 2) (h3 : p 3) (h4 : p 4) (h5 : p 5) (h6 : p 6) (h7 : p 7) (h8 : p 8) (h9 : p 9) (h10 : p 10) : ∀ i, i < 11 → p i
  | 0, _ => h0 | 1, _ => h1 | 2, _ => h2 | 3, _ => h3 | 4, _ => h4 | 5, _ => h5 | 6, _ => h6 | 7, _ => h7 | 8, _ => h8 | 9, _ => h9 | 10, _ => h10
  | n + 11, h => by omega
theorem ok_told1 {g z : T} (hg : g ∈ g121) (hz : z ∈ zL) : runB (told1 g z) = true :=
  List.all_eq_true.mp (chunk_all (p := fun g => zL.all fun z => runB (told1 g z)) (of11 k_told1_0 k_told1_1 k_told1_2 k_told1_3 k_told1_4 k_told1_5 k_told1_6 k_told1_7 k_told1_8 k_told1_9 k_told1_10) hg) z hz
theorem ok_told2 {g s m : T} (hg : g ∈ g121) (hs : s ∈ B1) (hm : m ∈ B1) : runB (told2 g s m) = true :=
  List.all_eq_true.mp (List.all_eq_true.mp (chunk_all (p := fun g => B1.all fun s => B1.all fun m => runB (told2 g s m)) (of11 k_told2_0 k_told2_1 k_told2_2 k_told2_3 k_told2_4 k_told2_5 k_told2_6 k_told2_7 k_told2_8 k_told2_9 k_told2_10) hg) s hs) m hm
theorem ok_told3 {g s m : T} (hg : g ∈ g121) (hs : s ∈ B1) (hm : m ∈ B1) : runB (told3 g s m) = true :=
  List.all_eq_true.mp (List.all_eq_true.mp (chunk_all (p := fun g => B1.all fun s => B1.all fun m => runB (told3 g s m)) (of11 k_told3_0 k_told3_1 k_told3_2 k_told3_3 k_told3_4 k_told3_5 k_told3_6 k_told3_7 k_told3_8 k_told3_9 k_told3_10) hg) s hs) m hm
theorem ok_told0 {g : T} (hg : g ∈ g121) : runB (told0 g) = true := by
  obtain ⟨i, hi, hm⟩ := chunk_121 hg
  exact List.all_eq_true.mp k_told0 g hg
end LM

set_option Elab.async false
set_option linter.all false
set_option maxRecDepth 100000
set_option maxHeartbeats 4000000
namespace LM
open PySem PySem.Spec PyProof.Rows L2 Evl
/-! ### a game told otherwise: its run, its worth -/
theorem run_of {w : World} {raw : List T} {t : T} (h : runB raw = true) (ht : t ∈ raw) : RunEx w t := ⟨GpR (rawG raw), c3 (rawG raw), c4 (rawG raw), run_ok (run_raw h).1, (run_raw h).2 t ht⟩
theorem mO_eq : mO = mOne := rfl
theorem ot_cases (g : T) (n : Int) : (∃ x l, opt g 0 = x :: l ∧ otV g n = T.gm (T.set (opt g 0 ++ [adV x mO])) (T.set (opt g 1))) ∨ otV g n = adV g (adV (smO n) (tnV (smO n))) ∨
    otV g n = T.gm (T.set (opt g 0 ++ [T.gm (T.set [smO n, moO n]) (T.set [g, moO n])])) (T.set (opt g 1)) ∨ otV g n = T.gm (T.set (opt g 0)) (T.set (opt g 1 ++ [T.gm (T.set [g, moO n]) (T.set [smO n, moO n])])) := by
  unfold otV
  by_cases c : otB g n = true
  · left
    rw [if_pos c]
    unfold otB at c
    rw [Bool.and_eq_true] at c
    cases e : opt g 0 with
    | nil => rw [e] at c; cases c.2
    | cons x l => exact ⟨x, l, rfl, rfl⟩
  · right
    rw [if_neg c]
    by_cases c1 : n % 4 = 1
    · left; rw [if_pos c1]
    · right
      rw [if_neg c1]
      by_cases c2 : n % 4 = 2
      · left; rw [if_pos c2]
      · right; rw [if_neg c2]
theorem sm_b1 (n : Int) : smO n ∈ B1 := g1_b1 (game_G 1 _)
theorem mo_b1 (n : Int) : moO n ∈ B1 := g1_b1 (game_G 1 _)
theorem z_mem {s : T} (h : s ∈ B1) : adV s (tnV s) ∈ zL := T.mem_set.mpr (List.mem_map.mpr ⟨s, h, rfl⟩)
theorem told_run {w : World} {g : T} (h : T.G 2 g) (n : Int) : RunEx w (otV g n) := by
  have hg := g2_121 h
  rcases ot_cases g n with ⟨x, l, e, q⟩ | q | q | q
  · refine run_of (ok_told0 hg) ?_
    rw [q]
    unfold told0
    rw [e]
    exact List.mem_singleton.mpr rfl
  · refine run_of (ok_told1 hg (z_mem (sm_b1 n))) ?_
    rw [q]
    exact List.mem_flatMap.mpr ⟨g, List.mem_cons_self, List.mem_map.mpr ⟨_, List.mem_cons_self, rfl⟩⟩
  · refine run_of (ok_told2 hg (sm_b1 n) (mo_b1 n)) ?_
    rw [q]
    exact List.mem_cons_self
  · refine run_of (ok_told3 hg (sm_b1 n) (mo_b1 n)) ?_
    rw [q]
    exact List.mem_cons_self
theorem more0 {g m : T} (hg : Gam g) (hh : Gam (T.gm (T.set (opt g 0 ++ [m])) (T.set (opt g 1)))) (hm : belowV g m 0 = false) : Eqv g (T.gm (T.set (opt g 0 ++ [m])) (T.set (opt g 1))) := by
  refine eqv_more hg hh (u := 0) (m := m) (fun v hv x => ?_) hm
  rcases hv with rfl | rfl
  · show x ∈ T.set (opt g 0 ++ [m]) ↔ _
    rw [T.mem_set, List.mem_append, List.mem_singleton]
    exact ⟨fun h => h.imp id fun e => ⟨rfl, e⟩, fun h => h.imp id fun e => e.2⟩
  · show x ∈ T.set (opt g 1) ↔ _
    rw [T.mem_set]
    exact ⟨.inl, fun h => h.elim id fun e => absurd e.1 (by decide)⟩
theorem more1 {g m : T} (hg : Gam g) (hh : Gam (T.gm (T.set (opt g 0)) (T.set (opt g 1 ++ [m])))) (hm : belowV g m 1 = false) : Eqv g (T.gm (T.set (opt g 0)) (T.set (opt g 1 ++ [m]))) := by
  refine eqv_more hg hh (u := 1) (m := m) (fun v hv x => ?_) hm
  rcases hv with rfl | rfl
  · show x ∈ T.set (opt g 0) ↔ _
    rw [T.mem_set]
    exact ⟨.inl, fun h => h.elim id fun e => absurd e.1 (by decide)⟩
  · show x ∈ T.set (opt g 1 ++ [m]) ↔ _
    rw [T.mem_set, List.mem_append, List.mem_singleton]
    exact ⟨fun h => h.imp id fun e => ⟨rfl, e⟩, fun h => h.imp id fun e => e.2⟩
theorem k_zl : (zL.all fun z => leV z Z0 && leV Z0 z && isGm 3 z && inL dayL z && decide (prf 1 z ≤ 2) && decide (prf 2 z ≤ 4)) = true := by decide +kernel
structure ZOk (z : T) : Prop where
  eq : Eqv z Z0
  gm : isGm 3 z = true
  day : z ∈ dayL
  p1 : prf 1 z ≤ 2
  p2 : prf 2 z ≤ 4
theorem z_ok {z : T} (h : z ∈ zL) : ZOk z := by
  have k := List.all_eq_true.mp k_zl z h
  simp only [Bool.and_eq_true, decide_eq_true_eq] at k
  obtain ⟨⟨⟨⟨⟨k1, k2⟩, k3⟩, k4⟩, k5⟩, k6⟩ := k
  exact ⟨⟨k1, k2⟩, k3, inL_ok k4, k5, k6⟩
theorem k_mone : (belowV mOne Z0 0 && isGm 2 mOne) = true := by decide +kernel
theorem gam_gm {n : Nat} {l r : List T} (hl : ∀ x ∈ l, isGm n x = true) (hr : ∀ x ∈ r, isGm n x = true) : isGm (n + 1) (T.gm (T.set l) (T.set r)) = true := gm_set hl hr
theorem in_two {p : T → Prop} {a b : T} (ha : p a) (hb : p b) : ∀ x ∈ [a, b], p x := fun x hx => by
  rcases List.mem_cons.mp hx with rfl | hx
  · exact ha
  · rw [List.mem_singleton.mp hx]; exact hb
theorem ot_gm (w : World) {g : T} (h : T.G 2 g) (n : Int) : isGm 5 (otV g n) = true := by
  obtain ⟨Gp, U3, U4, R, k⟩ := told_run (w := w) h n
  exact R.bd _ k
theorem ot_eqv (w : World) {g : T} (h : T.G 2 g) (n : Int) : Eqv g (otV g n) := by
  have hg : Gam g := Gam.of h.gam (by decide)
  have ho : Gam (otV g n) := Gam.of (ot_gm w h n) (by decide)
  have gs : isGm 3 (smO n) = true := gm_mono (game_G 1 (n / 4)).gam (by decide)
  have gm : isGm 3 (moO n) = true := gm_mono (game_G 1 (n / 64)).gam (by decide)
  have gg : isGm 3 g = true := h.gam
  rcases ot_cases g n with ⟨x, l, e, q⟩ | q | q | q
  · rw [q] at ho ⊢
    have hx : x ∈ opt g 0 := by rw [e]; exact List.mem_cons_self
    have k := k_mone
    rw [Bool.and_eq_true] at k
    have ix : isGm 2 x = true := ((h.opt 0).2.2 x hx).gam
    have below := ad_below 4 2 2 x mOne (by decide) ix k.2 (by decide) (by decide) 0 (.inl rfl) k.1
    have im : isGm 3 (adV x mOne) = true := ad_gm 1 1 x mOne ix k.2 (by decide)
    rw [mO_eq] at ho ⊢
    refine more0 hg ho (Bool.eq_false_iff.mpr fun c => ?_)
    have := bl_trans hg (Gam.of im (by decide)) (Gam.of ix (by decide)) (.inl rfl) c below
    rw [bl_own hg (.inl rfl) hx] at this
    cases this
  · rw [q]
    have Z := z_ok (z_mem (sm_b1 n))
    exact (ad_zero (gm_mono gg (by decide)) (gm_mono Z.gm (by decide)) Z.eq).symm
  · rw [q] at ho ⊢
    refine more0 hg ho (back_no hg (Gam.of (gam_gm (n := 3) (in_two gs gm) (in_two gg gm)) (by decide)) (.inl rfl) ?_)
    exact T.mem_set.mpr List.mem_cons_self
  · rw [q] at ho ⊢
    refine more1 hg ho (back_no hg (Gam.of (gam_gm (n := 3) (in_two gg gm) (in_two gs gm)) (by decide)) (.inr rfl) ?_)
    exact T.mem_set.mpr List.mem_cons_self
end LM

set_option Elab.async false
set_option linter.all false
set_option maxRecDepth 100000
set_option maxHeartbeats 4000000
namespace LM
open PySem PySem.Spec PyProof.Rows L2 Evl
/-! ### how many positions: by depth -/
def qG (m d : Nat) : Nat := if d ≤ m then 4 ^ d else 0
theorem sumN_len {f : T → Nat} {c : Nat} : ∀ {l : List T}, (∀ x ∈ l, f x ≤ c) → sumN f l ≤ l.length * c
  | [], _ => Nat.zero_le _
  | x :: l, h => by
    have h1 := h x List.mem_cons_self
    have h2 := sumN_len (f := f) (c := c) (l := l) fun y hy => h y (List.mem_cons_of_mem _ hy)
    rw [List.length_cons, Nat.succ_mul]
    show f x + sumN f l ≤ _
    omega
theorem prf_G : ∀ (d m : Nat) (t : T), T.G m t → prf d t ≤ qG m d
  | 0, m, t, _ => by unfold qG; rw [if_pos (Nat.zero_le _)]; exact Nat.le_refl 1
  | d + 1, 0, t, h => by rw [show t = T.gm [] [] from h]; exact Nat.zero_le _
  | d + 1, m + 1, t, h => by
    have row : ∀ v, sumN (prf d) (opt t v) ≤ 2 * qG m d := fun v => Nat.le_trans (sumN_len fun x hx => prf_G d m x ((h.opt v).2.2 x hx)) (Nat.mul_le_mul_right _ (h.opt v).2.1)
    have e : qG (m + 1) (d + 1) = 4 * qG m d := by
      unfold qG
      by_cases c : d ≤ m
      · rw [if_pos c, if_pos (by omega), Nat.pow_succ, Nat.mul_comm]
      · rw [if_neg c, if_neg (by omega)]
    rw [e]
    show sumN (prf d) (opt t 0) + sumN (prf d) (opt t 1) ≤ _
    have := row 0
    have := row 1
    omega
theorem prf_zero : ∀ (n d : Nat) (t : T), isGm n t = true → n ≤ d → prf d t = 0
  | 0, _, _, h, _ => by cases h
  | n + 1, 0, _, _, h => by omega
  | n + 1, d + 1, t, h, hd => by
    have row : ∀ v, sumN (prf d) (opt t v) = 0 := fun v => by
      have := sumN_len (f := prf d) (c := 0) (l := opt t v) fun x hx => by rw [prf_zero n d x (gm_opt h hx) (by omega)]; exact Nat.le_refl 0
      omega
    show sumN (prf d) (opt t 0) + sumN (prf d) (opt t 1) = 0
    rw [row, row]
theorem prf_more0 (d : Nat) (g m : T) : prf (d + 1) (T.gm (T.set (opt g 0 ++ [m])) (T.set (opt g 1))) ≤ prf (d + 1) g + prf d m := by
  have h0 := sumN_set (prf d) (opt g 0 ++ [m])
  have h1 := sumN_set (prf d) (opt g 1)
  rw [sumN_app] at h0
  have e : sumN (prf d) [m] = prf d m + 0 := rfl
  show sumN (prf d) (T.set (opt g 0 ++ [m])) + sumN (prf d) (T.set (opt g 1)) ≤ sumN (prf d) (opt g 0) + sumN (prf d) (opt g 1) + prf d m
  omega
theorem prf_more1 (d : Nat) (g m : T) : prf (d + 1) (T.gm (T.set (opt g 0)) (T.set (opt g 1 ++ [m]))) ≤ prf (d + 1) g + prf d m := by
  have h0 := sumN_set (prf d) (opt g 0)
  have h1 := sumN_set (prf d) (opt g 1 ++ [m])
  rw [sumN_app] at h1
  have e : sumN (prf d) [m] = prf d m + 0 := rfl
  show sumN (prf d) (T.set (opt g 0)) + sumN (prf d) (T.set (opt g 1 ++ [m])) ≤ sumN (prf d) (opt g 0) + sumN (prf d) (opt g 1) + prf d m
  omega
theorem prf_four (d : Nat) (a b c e : T) : prf (d + 1) (T.gm (T.set [a, b]) (T.set [c, e])) ≤ prf d a + prf d b + (prf d c + prf d e) := by
  have h0 := sumN_set (prf d) [a, b]
  have h1 := sumN_set (prf d) [c, e]
  have e0 : sumN (prf d) [a, b] = prf d a + (prf d b + 0) := rfl
  have e1 : sumN (prf d) [c, e] = prf d c + (prf d e + 0) := rfl
  show sumN (prf d) (T.set [a, b]) + sumN (prf d) (T.set [c, e]) ≤ _
  omega
def pT : Nat → Nat
  | 0 => 1
  | 1 => 8
  | 2 => 40
  | 3 => 150
  | 4 => 400
  | _ => 0
def pZ : Nat → Nat
  | 0 => 1
  | 1 => 2
  | 2 => 4
  | _ => 0
theorem prf_z {z : T} (Z : ZOk z) : ∀ d, prf d z ≤ pZ d
  | 0 => Nat.le_refl 1
  | 1 => Z.p1
  | 2 => Z.p2
  | d + 3 => by rw [prf_zero 3 (d + 3) z Z.gm (by omega)]; exact Nat.zero_le _
theorem mone_G : T.G 1 mOne := ⟨[], [Z0], rfl, List.Pairwise.nil, List.pairwise_singleton _ _, by decide, by decide, fun x h => (by cases h), fun x h => by rw [List.mem_singleton.mp h]; rfl⟩
theorem prf_ot (w : World) {g : T} (h : T.G 2 g) (n : Int) : ∀ d, prf d (otV g n) ≤ pT d := fun d => by
  have five : ∀ d, 5 ≤ d → prf d (otV g n) ≤ pT d := fun d hd => by rw [prf_zero 5 d _ (ot_gm w h n) hd]; exact Nat.zero_le _
  have pg : ∀ d, prf d g ≤ qG 2 d := fun d => prf_G d 2 g h
  have ps : ∀ d, prf d (smO n) ≤ qG 1 d := fun d => prf_G d 1 _ (game_G 1 _)
  have pm : ∀ d, prf d (moO n) ≤ qG 1 d := fun d => prf_G d 1 _ (game_G 1 _)
  have by5 : (∀ d, d < 5 → prf d (otV g n) ≤ pT d) → prf d (otV g n) ≤ pT d := fun k => by
    by_cases c : d < 5
    · exact k d c
    · exact five d (by omega)
  have four : ∀ m : T, (∀ e, prf e m ≤ 1 ∨ e ≠ 0) → prf 0 m ≤ 1 → prf 1 m ≤ 13 → prf 2 m ≤ 32 → prf 3 m ≤ 40 → (∀ d, prf (d + 1) (otV g n) ≤ prf (d + 1) g + prf d m) → ∀ d, d < 5 → prf d (otV g n) ≤ pT d := fun m _ m0 m1 m2 m3 k d hd => by
    have q1 := pg 1
    have q2 := pg 2
    have q3 := pg 3
    have q4 := pg 4
    have e1 : qG 2 1 = 4 := rfl
    have e2 : qG 2 2 = 16 := rfl
    have e3 : qG 2 3 = 0 := rfl
    have e4 : qG 2 4 = 0 := rfl
    match d, hd with
    | 0, _ => exact Nat.le_refl 1
    | 1, _ => have : prf 1 (otV g n) ≤ prf 1 g + prf 0 m := k 0; show _ ≤ 8; omega
    | 2, _ => have : prf 2 (otV g n) ≤ prf 2 g + prf 1 m := k 1; show _ ≤ 40; omega
    | 3, _ => have : prf 3 (otV g n) ≤ prf 3 g + prf 2 m := k 2; show _ ≤ 150; omega
    | 4, _ => have : prf 4 (otV g n) ≤ prf 4 g + prf 3 m := k 3; show _ ≤ 400; omega
    | d + 5, hd => omega
  have tr : ∀ m : T, (∀ e, prf e m ≤ 1 ∨ e ≠ 0) := fun m e => by
    cases e with
    | zero => exact .inl (Nat.le_refl 1)
    | succ e => exact .inr (by omega)
  have nN : ∀ a b c e : T, (∀ d, prf d a ≤ qG 2 d) → (∀ d, prf d b ≤ qG 1 d) → (∀ d, prf d c ≤ qG 1 d) → (∀ d, prf d e ≤ qG 1 d) → ∀ m : T, (∀ d, prf (d + 1) m ≤ prf d a + prf d b + (prf d c + prf d e)) → prf 1 m ≤ 13 ∧ prf 2 m ≤ 32 ∧ prf 3 m ≤ 40 := fun a b c e ha hb hc he m hm => by
    have g0 : qG 2 0 = 1 := rfl
    have g1 : qG 2 1 = 4 := rfl
    have g2 : qG 2 2 = 16 := rfl
    have s0 : qG 1 0 = 1 := rfl
    have s1 : qG 1 1 = 4 := rfl
    have s2 : qG 1 2 = 0 := rfl
    have a0 := ha 0
    have a1 := ha 1
    have a2 := ha 2
    have b0 := hb 0
    have b1 := hb 1
    have b2 := hb 2
    have c0 := hc 0
    have c1 := hc 1
    have c2 := hc 2
    have d0 := he 0
    have d1 := he 1
    have d2 := he 2
    have m0 : prf 1 m ≤ prf 0 a + prf 0 b + (prf 0 c + prf 0 e) := hm 0
    have m1 : prf 2 m ≤ prf 1 a + prf 1 b + (prf 1 c + prf 1 e) := hm 1
    have m2 : prf 3 m ≤ prf 2 a + prf 2 b + (prf 2 c + prf 2 e) := hm 2
    omega
  rcases ot_cases g n with ⟨x, l, e, q⟩ | q | q | q
  · have hx : x ∈ opt g 0 := by rw [e]; exact List.mem_cons_self
    have gx := (h.opt 0).2.2 x hx
    have pa : ∀ d, prf d (adV x mO) ≤ cv d (qG 1) (qG 1) := fun d => Nat.le_trans (prf_ad d 2 2 x mO gx.gam (by rw [mO_eq]; exact mone_G.gam) (by decide)) (cv_mono d (fun i => prf_G i 1 x gx) fun i => by rw [mO_eq]; exact prf_G i 1 _ mone_G)
    exact by5 (four (adV x mO) (tr _) (Nat.le_trans (pa 0) (by decide)) (Nat.le_trans (pa 1) (by decide)) (Nat.le_trans (pa 2) (by decide)) (Nat.le_trans (pa 3) (by decide)) fun d => by rw [q]; exact prf_more0 d g _)
  · have Z := z_ok (z_mem (sm_b1 n))
    have pa : ∀ d, prf d (otV g n) ≤ cv d (qG 2) pZ := fun d => by
      rw [q]
      exact Nat.le_trans (prf_ad d 3 3 g _ h.gam Z.gm (by decide)) (cv_mono d pg (prf_z Z))
    refine by5 fun d hd => Nat.le_trans (pa d) ?_
    match d, hd with
    | 0, _ => decide
    | 1, _ => decide
    | 2, _ => decide
    | 3, _ => decide
    | 4, _ => decide
    | d + 5, hd => omega
  · obtain ⟨k1, k2, k3⟩ := nN g (smO n) (moO n) (moO n) pg ps pm pm (T.gm (T.set [smO n, moO n]) (T.set [g, moO n])) (fun d => by have := prf_four d (smO n) (moO n) g (moO n); omega)
    exact by5 (four _ (tr _) (Nat.le_refl 1) k1 k2 k3 fun d => by rw [q]; exact prf_more0 d g _)
  · obtain ⟨k1, k2, k3⟩ := nN g (smO n) (moO n) (moO n) pg ps pm pm (T.gm (T.set [g, moO n]) (T.set [smO n, moO n])) (fun d => by have := prf_four d g (moO n) (smO n) (moO n); omega)
    exact by5 (four _ (tr _) (Nat.le_refl 1) k1 k2 k3 fun d => by rw [q]; exact prf_more1 d g _)
/-! ### a game that the law's play takes -/
theorem subs_cl {p : T → Prop} (cl : ∀ t, p t → ∀ v x, x ∈ opt t v → p x) : ∀ (n : Nat) (t : T), p t → ∀ x ∈ subsL n t, p x
  | 0, _, _, x, h => by cases h
  | n + 1, t, ht, x, h => by
    rcases List.mem_cons.mp h with rfl | h
    · exact ht
    · obtain ⟨z, hz, h2⟩ := List.mem_flatMap.mp h
      refine subs_cl cl n z ?_ x h2
      rcases List.mem_append.mp hz with hz | hz
      · exact cl t ht 0 z hz
      · exact cl t ht 1 z hz
structure Fit (t : T) : Prop where
  gm : isGm 5 t = true
  nar : ∀ x ∈ subsL 5 t, ∀ v, (opt x v).length ≤ 30
  small : tot 5 t ≤ 700
theorem up_tot (t : T) : ∀ n, upN (fun d => prf d t) n = tot n t
  | 0 => rfl
  | n + 1 => by show upN _ n + prf n t = tot n t + prf n t; rw [up_tot t n]
theorem fit_run {w : World} {t : T} {Gp : T → Prop} {U3 U4 : List T} (R : RunOk w Gp U3 U4) (h : Gp t) (s : tot 5 t ≤ 700) : Fit t :=
  ⟨R.bd t h, fun x hx v => R.nar x (subs_cl R.cl 5 t h x hx) v, s⟩
theorem opt_tnv {n : Nat} {t : T} (h : isGm n t = true) (hn : n ≤ 29) (v : Int) : ∃ u, (u = 0 ∨ u = 1) ∧ opt (tnV t) v = T.set ((opt t u).map tnV) := by
  rw [tnV_eq h hn, opt_gmv]
  split
  · exact ⟨1, .inr rfl, rfl⟩
  · exact ⟨0, .inl rfl, rfl⟩
theorem subs_tn {t : T} (h : isGm 5 t = true) : ∀ x ∈ subsL 5 (tnV t), ∃ y ∈ subsL 5 t, x = tnV y := by
  refine subs_cl (p := fun x => ∃ y ∈ subsL 5 t, x = tnV y) (fun x hx v z hz => ?_) 5 (tnV t) ⟨t, subs_self h, rfl⟩
  obtain ⟨y, hy, rfl⟩ := hx
  obtain ⟨u, _, e⟩ := opt_tnv (subs_gm 5 t y h hy) (by decide) v
  rw [e] at hz
  obtain ⟨q, hq, rfl⟩ := List.mem_map.mp (T.mem_set.mp hz)
  exact ⟨q, subs_opt 5 t y q u h hy hq, rfl⟩
theorem Fit.tn {t : T} (F : Fit t) : Fit (tnV t) := by
  refine ⟨tn_gm 5 t F.gm (by decide), fun x hx v => ?_, ?_⟩
  · obtain ⟨y, hy, rfl⟩ := subs_tn F.gm x hx
    obtain ⟨u, _, e⟩ := opt_tnv (subs_gm 5 t y F.gm hy) (by decide) v
    rw [e]
    refine Nat.le_trans (T.set_len _) ?_
    rw [List.length_map]
    exact F.nar y hy u
  · have := tot_le (p := fun d => prf d t) (t := tnV t) (fun d => prf_tn d 5 t F.gm (by decide)) 5
    rw [up_tot] at this
    exact Nat.le_trans this F.small
end LM

set_option Elab.async false
set_option linter.all false
set_option maxRecDepth 100000
set_option maxHeartbeats 4000000
namespace LM
open PySem PySem.Spec PyProof.Rows L2 Evl
/-! ### what the law's play is asked -/
def Fm (Us : List T) (t : T) : Prop := t ∈ dayL ∨ ∃ u ∈ Us, t ∈ subsL 5 u
structure UsOk (Us : List T) : Prop where
  fit : ∀ u ∈ Us, Fit u
  len : Us.length ≤ 4
section
variable {Us : List T}
theorem fm_cl (F : UsOk Us) {t : T} (h : Fm Us t) {v : Int} {x : T} (hx : x ∈ opt t v) : Fm Us x := by
  rcases h with h | ⟨u, hu, h⟩
  · exact .inl (b1_s ((day_s h).kid v x hx)).2.1
  · exact .inr ⟨u, hu, subs_opt 5 u t x v (F.fit u hu).gm h hx⟩
theorem fm_bd (F : UsOk Us) {t : T} (h : Fm Us t) : isGm 5 t = true := by
  rcases h with h | ⟨u, hu, h⟩
  · exact gm_mono (day_gp h) (by decide)
  · exact subs_gm 5 u t (F.fit u hu).gm h
theorem fm_few (F : UsOk Us) {t : T} (h : Fm Us t) (v : Int) : (opt t v).length ≤ 30 := by
  rcases h with h | ⟨u, hu, h⟩
  · have := (day_s h).few v; omega
  · exact (F.fit u hu).nar t h v
theorem fm_tot (F : UsOk Us) {t : T} (h : Fm Us t) : blk t ≤ 200000 := by
  rcases h with h | ⟨u, hu, h⟩
  · have g := gm_mono (day_gp h) (show 3 ≤ 3 by decide)
    have h0 := (day_s h).sum 0
    have h1 := (day_s h).sum 1
    obtain ⟨a, b, rfl⟩ := gm_shape g
    have e0 : blks a ≤ 60 := h0
    have e1 : blks b ≤ 60 := h1
    rw [blk, blks, blks, blks, blk, blk]
    omega
  · have g := (F.fit u hu).gm
    have b := blk_tot 5 t (subs_gm 5 u t g h)
    have := subs_tot 5 u t g h
    have := (F.fit u hu).small
    omega
theorem fm_sum (F : UsOk Us) : SumOk (Fm Us) := by
  refine ⟨fun t h v x hx => fm_cl F h hx, fun t h => gm_mono (fm_bd F h) (by decide), fun t h v => by have := fm_few F h v; omega, fun t h => by have := depth_gm 5 t (fm_bd F h); omega, fun t h => fm_tot F h, ⟨dayL ++ Us.flatMap (subsL 5), ?_, fun t h => ?_⟩, fun a b ha hb => ?_⟩
  · have l1 := of_decide_eq_true k_len
    have all : ∀ l : List T, (∀ u ∈ l, Fit u) → (l.flatMap (subsL 5)).length ≤ l.length * 700 := fun l hl => by
      induction l with
      | nil => exact Nat.zero_le _
      | cons u l ih =>
        rw [List.flatMap_cons, List.length_append, subs_len, List.length_cons, Nat.succ_mul]
        have := (hl u List.mem_cons_self).small
        have := ih fun y hy => hl y (List.mem_cons_of_mem _ hy)
        omega
    have := all Us F.fit
    have l4 := Nat.mul_le_mul_right 700 F.len
    rw [List.length_append]
    omega
  · rcases h with h | ⟨u, hu, h⟩
    · exact List.mem_append_left _ h
    · exact List.mem_append_right _ (List.mem_flatMap.mpr ⟨u, hu, h⟩)
  · have := depth_gm 9 _ (ad_gm 4 4 a b (fm_bd F ha) (fm_bd F hb) (by decide))
    omega
theorem fm_tn {w : World} (F : UsOk Us) : TnOk w (Fm Us) := by
  refine ⟨fun t h v x hx => fm_cl F h hx, fun t h => gm_mono (fm_bd F h) (by decide), fun t h v => by have := fm_few F h v; omega, fun t h v hv => set_okD (fun x hx => ?_) ?_⟩
  · obtain ⟨y, hy, rfl⟩ := List.mem_map.mp hx
    exact tn_gm 4 y (gm_opt (fm_bd F h) hy) (by decide)
  · rw [List.length_map]
    have := fm_few F h v
    omega
theorem fm_self (F : UsOk Us) {u : T} (h : u ∈ Us) : Fm Us u := .inr ⟨u, h, subs_self (F.fit u h).gm⟩
end
def Fs (S1 S2 : T) (t : T) : Prop := t ∈ subsL 9 S1 ∨ t ∈ subsL 9 S2
/-- what stands beside one another while a sum is played -/
def AdP (a b t : T) : Prop := ∃ y z, y ∈ subsL 5 a ∧ z ∈ subsL 5 b ∧ t = adV y z
theorem adp_opt {y z : T} (hy : isGm 5 y = true) (hz : isGm 5 z = true) (v : Int) : ∃ u, (u = 0 ∨ u = 1) ∧ opt (adV y z) v = T.set (adRow y z u) := by
  rw [adV_eq hy hz (by decide), opt_gmv]
  split
  · exact ⟨0, .inl rfl, rfl⟩
  · exact ⟨1, .inr rfl, rfl⟩
theorem adp_cl {a b : T} (ha : isGm 5 a = true) (hb : isGm 5 b = true) {t : T} (h : AdP a b t) (v : Int) (x : T) (hx : x ∈ opt t v) : AdP a b x := by
  obtain ⟨y, z, hy, hz, rfl⟩ := h
  obtain ⟨u, _, e⟩ := adp_opt (subs_gm 5 a y ha hy) (subs_gm 5 b z hb hz) v
  rw [e, T.mem_set] at hx
  unfold adRow at hx
  rcases List.mem_append.mp hx with hx | hx
  · obtain ⟨q, hq, rfl⟩ := List.mem_map.mp hx
    exact ⟨q, z, subs_opt 5 a y q u ha hy hq, hz, rfl⟩
  · obtain ⟨q, hq, rfl⟩ := List.mem_map.mp hx
    exact ⟨y, q, hy, subs_opt 5 b z q u hb hz hq, rfl⟩
theorem adp_few {a b : T} (ha : Fit a) (hb : Fit b) {t : T} (h : AdP a b t) (v : Int) : (opt t v).length < 64 := by
  obtain ⟨y, z, hy, hz, rfl⟩ := h
  obtain ⟨u, _, e⟩ := adp_opt (subs_gm 5 a y ha.gm hy) (subs_gm 5 b z hb.gm hz) v
  rw [e]
  refine Nat.lt_of_le_of_lt (T.set_len _) ?_
  unfold adRow
  rw [List.length_append, List.length_map, List.length_map]
  have := ha.nar y hy u
  have := hb.nar z hz u
  omega
theorem adp_subs {a b : T} (ha : Fit a) (hb : Fit b) : ∀ t ∈ subsL 9 (adV a b), AdP a b t :=
  subs_cl (p := AdP a b) (fun _ h v x hx => adp_cl ha.gm hb.gm h v x hx) 9 (adV a b) ⟨a, b, subs_self ha.gm, subs_self hb.gm, rfl⟩
theorem ad9 {a b : T} (ha : Fit a) (hb : Fit b) : isGm 9 (adV a b) = true := ad_gm 4 4 a b ha.gm hb.gm (by decide)
/-- the two sums that are played -/
theorem fs_ok {a b c e : T} (ha : Fit a) (hb : Fit b) (hc : Fit c) (he : Fit e) (h1 : tot 9 (adV a b) ≤ 349000) (h2 : tot 9 (adV c e) ≤ 349000) : WnOk (Fs (adV a b) (adV c e)) := by
  have g1 := ad9 ha hb
  have g2 := ad9 hc he
  have bd : ∀ t, Fs (adV a b) (adV c e) t → isGm 9 t = true := fun t h => h.elim (subs_gm 9 _ t g1) (subs_gm 9 _ t g2)
  refine ⟨fun t h v x hx => h.imp (fun k => subs_opt 9 _ t x v g1 k hx) fun k => subs_opt 9 _ t x v g2 k hx, fun t h => gm_mono (bd t h) (by decide), fun t h v => ?_, fun t h => by have := depth_gm 9 t (bd t h); omega, fun t h => ?_, ⟨subsL 9 (adV a b) ++ subsL 9 (adV c e), ?_, fun t h => List.mem_append.mpr h⟩⟩
  · rcases h with h | h
    · exact adp_few ha hb (adp_subs ha hb t h) v
    · exact adp_few hc he (adp_subs hc he t h) v
  · have b := blk_tot 9 t (bd t h)
    rcases h with h | h
    · have := subs_tot 9 _ t g1 h
      omega
    · have := subs_tot 9 _ t g2 h
      omega
  · rw [List.length_append, subs_len, subs_len]
    omega
/-! ### two games -/
structure Two (one other : T) : Prop where
  f1 : Fit one
  f2 : Fit other
  t1 : tot 9 (adV one (tnV other)) ≤ 349000
  t2 : tot 9 (adV other (tnV one)) ≤ 349000
theorem k_qq : decide (upN (fun d => cv d (qG 3) (qG 3)) 9 ≤ 349000 ∧ upN (fun d => cv d (qG 2) pT) 9 ≤ 349000 ∧ upN (fun d => cv d pT (qG 2)) 9 ≤ 349000 ∧ upN (qG 3) 5 ≤ 700 ∧ upN pT 5 ≤ 700) = true := by decide +kernel
theorem tot_ad {p q : Nat → Nat} {a b : T} (ha : isGm 5 a = true) (hb : isGm 5 b = true) (pa : ∀ d, prf d a ≤ p d) (pb : ∀ d, prf d b ≤ q d) : tot 9 (adV a (tnV b)) ≤ upN (fun d => cv d p q) 9 :=
  tot_le (p := fun d => cv d p q) (fun d => Nat.le_trans (prf_ad d 5 5 a (tnV b) ha (tn_gm 5 b hb (by decide)) (by decide)) (cv_mono d pa fun i => Nat.le_trans (prf_tn i 5 b hb (by decide)) (pb i))) 9
theorem fit_drawn (w : World) {t : T} (h : T.G 3 t) : Fit t := by
  obtain ⟨Gp, U3, U4, R, k⟩ := drawn_run (w := w) h
  have q := of_decide_eq_true k_qq
  exact fit_run R k (Nat.le_trans (tot_le (p := qG 3) (fun d => prf_G d 3 t h) 5) q.2.2.2.1)
theorem fit_told (w : World) {g : T} (h : T.G 2 g) (n : Int) : Fit (otV g n) := by
  obtain ⟨Gp, U3, U4, R, k⟩ := told_run (w := w) h n
  have q := of_decide_eq_true k_qq
  exact fit_run R k (Nat.le_trans (tot_le (p := pT) (prf_ot w h n) 5) q.2.2.2.2)
theorem two_drawn (w : World) {a b : T} (ha : T.G 3 a) (hb : T.G 3 b) : Two a b := by
  have q := of_decide_eq_true k_qq
  have fa := fit_drawn w ha
  have fb := fit_drawn w hb
  have pa : ∀ d, prf d a ≤ qG 3 d := fun d => prf_G d 3 a ha
  have pb : ∀ d, prf d b ≤ qG 3 d := fun d => prf_G d 3 b hb
  exact ⟨fa, fb, Nat.le_trans (tot_ad fa.gm fb.gm pa pb) q.1, Nat.le_trans (tot_ad fb.gm fa.gm pb pa) q.1⟩
theorem two_told (w : World) {g : T} (h : T.G 2 g) (n : Int) : Two g (otV g n) := by
  have q := of_decide_eq_true k_qq
  have fa := fit_drawn w h.up
  have fb := fit_told w h n
  have pa : ∀ d, prf d g ≤ qG 2 d := fun d => prf_G d 2 g h
  exact ⟨fa, fb, Nat.le_trans (tot_ad fa.gm fb.gm pa (prf_ot w h n)) q.2.1, Nat.le_trans (tot_ad fb.gm fa.gm (prf_ot w h n) pa) q.2.2.1⟩
def usL (one other : T) : List T := [one, tnV one, other, tnV other]
theorem us_ok {one other : T} (W : Two one other) : UsOk (usL one other) := ⟨fun u hu => by
  rcases List.mem_cons.mp hu with rfl | hu
  · exact W.f1
  · rcases List.mem_cons.mp hu with rfl | hu
    · exact W.f1.tn
    · rcases List.mem_cons.mp hu with rfl | hu
      · exact W.f2
      · rw [List.mem_singleton.mp hu]; exact W.f2.tn, Nat.le_refl 4⟩
def Fp (one other : T) : T → Prop := Fm (usL one other)
def Fw (one other : T) : T → Prop := Fs (adV one (tnV other)) (adV other (tnV one))
theorem fw_ok {one other : T} (W : Two one other) : WnOk (Fw one other) := fs_ok W.f1 W.f2.tn W.f2 W.f1.tn W.t1 W.t2
/-- what is asked of the two, one way and the other -/
theorem less_ask {one other : T} (W : Two one other) : (Fp one other one ∧ Fp one other (tnV other) ∧ Fp one other other ∧ Fw one other (adV one (tnV other))) ∧ Fp one other other ∧ Fp one other (tnV one) ∧ Fp one other one ∧ Fw one other (adV other (tnV one)) := by
  have F := us_ok W
  have m1 : one ∈ usL one other := List.mem_cons_self
  have m2 : tnV one ∈ usL one other := List.mem_cons_of_mem _ List.mem_cons_self
  have m3 : other ∈ usL one other := List.mem_cons_of_mem _ (List.mem_cons_of_mem _ List.mem_cons_self)
  have m4 : tnV other ∈ usL one other := List.mem_cons_of_mem _ (List.mem_cons_of_mem _ (List.mem_cons_of_mem _ List.mem_cons_self))
  have s1 := subs_self (ad9 W.f1 W.f2.tn)
  have s2 := subs_self (ad9 W.f2 W.f1.tn)
  exact ⟨⟨fm_self F m1, fm_self F m4, fm_self F m3, .inl s1⟩, fm_self F m3, fm_self F m2, fm_self F m1, .inr s2⟩
theorem k_b1tn : (B1.all fun s => inL dayL (tnV s)) = true := by decide +kernel
theorem other_ask {g other : T} (h : T.G 2 g) (n : Int) : Fp g other g ∧ Fp g other mO ∧ Fp g other (smO n) ∧ Fp g other (tnV (smO n)) ∧ Fp g other (adV (smO n) (tnV (smO n))) := by
  have s := sm_b1 n
  exact ⟨.inl (g2_day h), .inl (by rw [mO_eq]; exact (b1_s (g1_b1 mone_G)).2.1), .inl (b1_s s).2.1, .inl (inL_ok (List.all_eq_true.mp k_b1tn _ s)), .inl (z_ok (z_mem s)).day⟩
end LM

set_option Elab.async false
set_option linter.all false
set_option maxRecDepth 100000
set_option maxHeartbeats 4000000
namespace LM
open PySem PySem.Spec PyProof.Rows L2 Evl
/-! ### _law_at_most -/
abbrev sLawAtMost : Stmt := topS 17
abbrev nLawAtMost : List Str := ["_law_one", "_law_other"]
theorem scLawAtMost : FnScope nLawAtMost ["_law_one", "_law_other"] (defScope sLawAtMost) := ⟨rfl, rfl, rfl, by decide +kernel, rfl, by decide +kernel, by decide +kernel⟩
section
variable {P : Program} {w : World} {K : PySem.W.Frag} {mg : Str → Option Value} {base : Heap} {f : Addr} {fd : FuncData} {k j : Nat} {Gp Gs Gt : T → Prop}
def RLess (Gp Gs Gt : T → Prop) (ds : List D) (r : D) : Prop := ∃ a b, ds = [T.data a, T.data b] ∧ Gp a ∧ Gp (tnV b) ∧ Gt b ∧ Gs (adV a (tnV b)) ∧ r = .bool (!wnV (adV a (tnV b)) 0)
theorem gs__law_at_most (B : BI mg) (GP : SumOk Gp) (GS : WnOk Gs) (GT : TnOk w Gt) (F : Fun K "_law_at_most" "_law_at_most" sLawAtMost f fd) (b : Binds K fd ["_law_one", "_law_other"] []) (hm : mg "_law_at_most" = some (.ref f)) (h__law_turned : Has P w K mg base k "_law_turned" (SpR K (RTurned Gt 21)))
    (h__law_sum : HasG P w K mg base k "_law_sum" (SpM K (RSum K Gp 41))) (h__law_wins : HasG P w K mg base k "_law_wins" (SpM K (RWins K Gs 21))) : HasG P w K mg base (k + 1) "_law_at_most" (SpR K (RLess Gp Gs Gt)) := by
  refine ⟨f, fd, _, gn_ofP F scLawAtMost (by decide) (fun ds r h => by obtain ⟨_, _, rfl, _⟩ := h; rfl) (fun cdv A outer s H E gd hr => ⟨_, (pss_one (ps_ret (pe_not (pe_hG h__law_wins gd hr (by omega) (by rfl) (pa_cons (pe_hG h__law_sum gd hr (by omega) (by rfl) (pa_cons (pv 0) (pa_cons (pe_h h__law_turned hr (by omega) (by rfl) (pa_cons (pv 1) pa_nil)) (pa_cons pe_dnewK pa_nil)))) (pa_cons pe_int (pa_cons pe_dnewK pa_nil))))))), fun ds r h => ?_⟩), hm, F.kp, b⟩
  try dsimp only [cxOf, Cx.nox, Cx.wish]
  obtain ⟨a, b, rfl, ga, gb, gt, gs, rfl⟩ := h
  refine ⟨[smC K Gp, wnC K Gs], ?_⟩
  refine (show XM K _ [some (.d a.data), some (.d b.data)] [] _ from ?_)
  refine xm_ret (ex_notV (ex_wn (N := 21) (i := 1) (μ := [smC K Gp, wnC K Gs]) gs (.inl rfl) (GS.bd _ gs) (by decide) (by decide) rfl (exs_cons (μ1 := [smC K Gp]) (ex_sm (N := 41) (i := 0) (μ := [smC K Gp]) ga gb (GP.bd _ ga) (GP.bd _ gb) (by decide) (by decide) (by decide) rfl (exs_cons (ex_var rfl) (exs_cons (ex_pure (ed_call (eds_cons (ed_var (i := 1) rfl) eds_nil) ⟨b, 20, rfl, gt, GT.bd b gt, by decide, by decide, rfl⟩)) (exs_cons ex_newS exs_nil)))) (exs_cons (ex_pure ed_int) (exs_cons ex_newS exs_nil)))))
end
theorem gn_of {P : Program} {w : World} {K : PySem.W.Frag} {mg : Str → Option Value} {base : Heap} {q : Str} {st : Stmt} {f : Addr} {fd : FuncData} {N ps : List Str} {k : Nat} {R : List D → D → Prop} (F : Fun K q q st f fd) (S : FnScope N ps (defScope st)) (hN : ps.length ≤ N.length)
    (len : ∀ ds r, R ds r → ds.length = ps.length)
    (hbody : ∀ (cdv : Value) (A : Around) (outer : List Env) (s : Shared) (H : Hp) (E : XK), Gd (A.deeper (envOfC q (defScope st) s.heap.objs.size f cdv)) → Room k (A.deeper (envOfC q (defScope st) s.heap.objs.size f cdv)) →
      ∃ t, PSs (cxOf CX0 P w K mg base N q (defScope st) f cdv A outer s H E).nox (defBody st) t ∧ ∀ ds r, R ds r → XD K t (startR N ds) none (.rt r)) : FnG P w K mg base (k + 1) f fd ps (SpR K R) := by
  refine okG_fn F S (fun vs H Q E h => ?_) (fun cdv A outer s H vs Q E gd hr h => ?_)
  · obtain ⟨ds, r, Hm, _, hd, hR, _⟩ := h
    rw [hd.len, len ds r hR]
  · obtain ⟨t, h1, h2⟩ := hbody cdv A outer s H E gd hr
    refine ⟨t, h1, ?_⟩
    obtain ⟨ds, r, Hm, s1, hd, hR, q⟩ := h
    have hl := len ds r hR
    exact h2 ds r hR H Hm _ (L2.start N vs) H Hm ⟨Gr.refl s1, by rw [startR_len (by omega)]; unfold L2.start; rw [List.length_append, List.length_map, List.length_replicate]; have := hd.len; omega, start_sd hd, trivial⟩ fun v H' Hm' g hv => q v H' Hm' g hv
/-! ### the two games of a script -/
def toldB (ns : List Int) : Bool := decide (0 < mixed ns 2 % 3)
def oneF (ns : List Int) : T := if toldB ns = true then game 2 (mixed ns 0) else game 3 (mixed ns 0)
def otherF (ns : List Int) : T := if toldB ns = true then otV (game 2 (mixed ns 0)) (mixed ns 3) else game 3 (mixed ns 1)
theorem one_told {ns : List Int} (h : toldB ns = true) : oneF ns = game 2 (mixed ns 0) := by unfold oneF; rw [if_pos h]
theorem other_told {ns : List Int} (h : toldB ns = true) : otherF ns = otV (game 2 (mixed ns 0)) (mixed ns 3) := by unfold otherF; rw [if_pos h]
theorem one_drawn {ns : List Int} (h : toldB ns = false) : oneF ns = game 3 (mixed ns 0) := by unfold oneF; rw [if_neg (by rw [h]; decide)]
theorem other_drawn {ns : List Int} (h : toldB ns = false) : otherF ns = game 3 (mixed ns 1) := by unfold otherF; rw [if_neg (by rw [h]; decide)]
theorem one_G (ns : List Int) : T.G 3 (oneF ns) := by
  unfold oneF
  split
  · exact (game_G 2 _).up
  · exact game_G 3 _
theorem one_runF (w : World) (ns : List Int) : RunEx w (oneF ns) := drawn_run (one_G ns)
theorem other_runF (w : World) (ns : List Int) : RunEx w (otherF ns) := by
  unfold otherF
  split
  · exact told_run (game_G 2 _) _
  · exact drawn_run (game_G 3 _)
theorem two_F (w : World) (ns : List Int) : Two (oneF ns) (otherF ns) := by
  cases h : toldB ns with
  | true => rw [one_told h, other_told h]; exact two_told w (game_G 2 _) _
  | false => rw [one_drawn h, other_drawn h]; exact two_drawn w (game_G 3 _) (game_G 3 _)
theorem told_alike (w : World) {ns : List Int} (h : toldB ns = true) : Eqv (oneF ns) (otherF ns) := by
  rw [one_told h, other_told h]
  exact ot_eqv w (game_G 2 _) _
def RLawN (ns : List Int) (ds : List D) (r : D) : Prop := ds = [.list (ns.map PyData.int)] ∧ r = .bool true
theorem run_led {w : World} {Gp : T → Prop} {U3 U4 : List T} (R : RunOk w Gp U3 U4) (t : T) (h : Gp t) (v : Int) (hv : v = 0 ∨ v = 1) : ∃ fs, ledL 200 (hereV t) v (opt (hereV t) v) = some fs := ((plOk_of R).led t h v hv).imp fun _ h => h.1
theorem run_plain {w : World} {Gp : T → Prop} {U3 U4 : List T} (R : RunOk w Gp U3 U4) {t : T} (h : Gp t) : (plainV t).depth ≤ 60 := by
  have := can_gm (plain_ok R.cl (run_led R) 5 t h (R.bd t h) (by decide)).2
  have := depth_gm 5 _ this
  omega
/-- many promises, one for each -/
theorem FnG.all {P : Program} {w : World} {K : PySem.W.Frag} {mg : Str → Option Value} {base : Heap} {k : Nat} {f : Addr} {fd : FuncData} {ps : List Str} (h : ∀ ns, FnG P w K mg base k f fd ps (SpR K (RLawN ns))) : FnG P w K mg base k f fd ps (SpR K RLaw) := by
  have tr : ∀ vs H Q E, SpR K RLaw vs H Q E → ∃ ns, SpR K (RLawN ns) vs H Q E := fun vs H Q E h => by
    obtain ⟨ds, r, Hm, h1, h2, ⟨ns, h3⟩, h4⟩ := h
    exact ⟨ns, ds, r, Hm, h1, h2, h3, h4⟩
  exact ⟨fun vs H Q E s => (tr vs H Q E s).elim fun ns s => (h ns).len vs H Q E s, fun A outer s H args us vs Q E g hr h0 b v sp => (tr vs H Q E sp).elim fun ns sp => (h ns).run A outer s H args us vs Q E g hr h0 b v sp⟩
/-! ### law -/
abbrev sLaw : Stmt := topS 19
abbrev nLaw : List Str := ["_law_script", "_law_one", "_law_other", "_law_told", "_law_alike"]
theorem scLaw : FnScope nLaw ["_law_script"] (defScope sLaw) := ⟨rfl, rfl, rfl, by decide +kernel, rfl, by decide +kernel, by decide +kernel⟩
section
variable {P : Program} {w : World} {K : PySem.W.Frag} {mg : Str → Option Value} {base : Heap} {f : Addr} {fd : FuncData} {k j : Nat}
theorem has_law_one (ns : List Int) {G1 G2 : T → Prop} {U3 U4 V3 V4 : List T} (R1 : RunOk w G1 U3 U4) (r1 : G1 (oneF ns)) (R2 : RunOk w G2 V3 V4) (r2 : G2 (otherF ns)) (B : BI mg) (F : Fun K "law" "law" sLaw f fd)
    (h__law_mixed : Has P w K mg base k "_law_mixed" (SpR K RMixed)) (h__law_game : Has P w K mg base k "_law_game" (SpR K (RGame 4))) (h__law_otherwise : HasG P w K mg base k "_law_otherwise" (SpR K (ROther (Fp (oneF ns) (otherF ns)) (Fp (oneF ns) (otherF ns)))))
    (h__law_at_most : HasG P w K mg base k "_law_at_most" (SpR K (RLess (Fp (oneF ns) (otherF ns)) (Fw (oneF ns) (otherF ns)) (Fp (oneF ns) (otherF ns))))) (h_plain : Has P w K mg base k "plain" (SpR K (RPlainF G1))) (h_plain2 : Has P w K mg base k "plain" (SpR K (RPlainF G2))) :
    FnG P w K mg base (k + 1) f fd ["_law_script"] (SpR K (RLawN ns)) := by
  refine gn_of F scLaw (by decide) (fun ds r h => by obtain ⟨rfl, _⟩ := h; rfl) (fun cdv A outer s H E gd hr => ⟨_, (pss_cons (ps_set (i := 1) scLaw.nd rfl (by first | exact .inl rfl | exact .inr rfl) (pe_h h__law_game hr (by omega) (by rfl) (pa_cons (pe_h h__law_mixed hr (by omega) (by rfl) (pa_cons (pv 0) (pa_cons pe_int pa_nil))) (pa_cons pe_int pa_nil))))
    (pss_cons (ps_set (i := 2) scLaw.nd rfl (by first | exact .inl rfl | exact .inr rfl) (pe_h h__law_game hr (by omega) (by rfl) (pa_cons (pe_h h__law_mixed hr (by omega) (by rfl) (pa_cons (pv 0) (pa_cons pe_int pa_nil))) (pa_cons pe_int pa_nil))))
    (pss_cons (ps_set (i := 3) scLaw.nd rfl (by first | exact .inl rfl | exact .inr rfl) (pe_cmpR op_gt (pe_op op_mod (pe_h h__law_mixed hr (by omega) (by rfl) (pa_cons (pv 0) (pa_cons pe_int pa_nil))) pe_int) pe_int (nomark _)))
    (pss_cons (ps_if (pt_val (pv 3)) (pss_cons (ps_set (i := 1) scLaw.nd rfl (by first | exact .inl rfl | exact .inr rfl) (pe_h h__law_game hr (by omega) (by rfl) (pa_cons (pe_h h__law_mixed hr (by omega) (by rfl) (pa_cons (pv 0) (pa_cons pe_int pa_nil))) (pa_cons pe_int pa_nil))))
    (pss_one (ps_set (i := 2) scLaw.nd rfl (by first | exact .inl rfl | exact .inr rfl) (pe_hG h__law_otherwise gd hr (by omega) (by rfl) (pa_cons (pv 1) (pa_cons (pe_h h__law_mixed hr (by omega) (by rfl) (pa_cons (pv 0) (pa_cons pe_int pa_nil))) pa_nil)))))) pss_nil)
    (pss_cons (ps_set (i := 4) scLaw.nd rfl (by first | exact .inl rfl | exact .inr rfl) (pe_and (pe_hG h__law_at_most gd hr (by omega) (by rfl) (pa_cons (pv 1) (pa_cons (pv 2) pa_nil))) (pe_one (pe_hG h__law_at_most gd hr (by omega) (by rfl) (pa_cons (pv 2) (pa_cons (pv 1) pa_nil))))))
    (pss_cons (ps_if (pw_and (pt_val (pv 3)) (pw_and1 (pt_not (pt_val (pv 4))))).pt (pss_one (ps_ret pe_bl)) pss_nil)
    (pss_one (ps_ret (pe_cmpR (op_eqK K rfl (hu64 hr)) (pe_cmpR (op_eqK K rfl (hu64 hr)) (pe_h h_plain hr (by omega) (by rfl) (pa_cons (pv 1) pa_nil)) (pe_h h_plain2 hr (by omega) (by rfl) (pa_cons (pv 2) pa_nil)) (nomark _)) (pv 4) (nomark _)))))))))), fun ds r h => ?_⟩)
  try dsimp only [cxOf, Cx.nox, Cx.wish]
  obtain ⟨rfl, rfl⟩ := h
  have W := two_F w ns
  have A := less_ask W
  have mb := fun k => mixed_bd ns k
  have i1 : isGm 14 (oneF ns) = true := gm_mono W.f1.gm (by decide)
  have i2 : isGm 14 (otherF ns) = true := gm_mono W.f2.gm (by decide)
  have v1 : (!wnV (adV (oneF ns) (tnV (otherF ns))) 0) = leV (oneF ns) (otherF ns) := law_le i1 i2
  have v2 : (!wnV (adV (otherF ns) (tnV (oneF ns))) 0) = leV (otherF ns) (oneF ns) := law_le i2 i1
  have same : plainV (oneF ns) = plainV (otherF ns) ↔ Eqv (oneF ns) (otherF ns) := plain_same R1.cl (run_led R1) R2.cl (run_led R2) r1 r2 (gm_mono W.f1.gm (by decide)) (gm_mono W.f2.gm (by decide))
  have ask : ∀ (i : Int) (ρ : Rho), 0 ≤ i → i ≤ 1000000 → ρ[0]? = some (some (PyData.list (ns.map PyData.int))) → EDs K (tCons (tVar 0) (tCons (tC (.int i)) tNil)) ρ [.list (ns.map PyData.int), .int i] := fun i ρ _ _ h => eds_cons (ed_var h) (eds_cons ed_int eds_nil)
  refine (show XD K _ [some (.list (ns.map PyData.int)), none, none, none, none] none _ from ?_)
  refine xd_seq (xd_asg (d := (game 3 (mixed ns 0)).data) (ed_call (ds := [.int (mixed ns 0), .int ((3 : Nat) : Int)]) (eds_cons (ed_call (eds_cons (ed_var rfl) (eds_cons ed_int eds_nil)) ⟨ns, 0, rfl, by decide, by decide, rfl⟩) (eds_cons ed_int eds_nil)) ⟨_, 3, rfl, (mb 0).1, by decide, rfl⟩)) ?_
  refine (show XD K _ [some (.list (ns.map PyData.int)), some (game 3 (mixed ns 0)).data, none, none, none] none _ from ?_)
  refine xd_seq (xd_asg (d := (game 3 (mixed ns 1)).data) (ed_call (ds := [.int (mixed ns 1), .int ((3 : Nat) : Int)]) (eds_cons (ed_call (eds_cons (ed_var rfl) (eds_cons ed_int eds_nil)) ⟨ns, 1, rfl, by decide, by decide, rfl⟩) (eds_cons ed_int eds_nil)) ⟨_, 3, rfl, (mb 1).1, by decide, rfl⟩)) ?_
  refine (show XD K _ [some (.list (ns.map PyData.int)), some (game 3 (mixed ns 0)).data, some (game 3 (mixed ns 1)).data, none, none] none _ from ?_)
  refine xd_seq (xd_asg (d := .bool (toldB ns)) (ed_op (ed_op (ed_call (eds_cons (ed_var rfl) (eds_cons ed_int eds_nil)) ⟨ns, 2, rfl, by decide, by decide, rfl⟩) ed_int (rd_mod (by decide))) ed_int rd_gtI)) ?_
  refine (show XD K _ [some (.list (ns.map PyData.int)), some (game 3 (mixed ns 0)).data, some (game 3 (mixed ns 1)).data, some (.bool (toldB ns)), none] none _ from ?_)
  refine xd_seq (ρ' := [some (.list (ns.map PyData.int)), some (oneF ns).data, some (otherF ns).data, some (.bool (toldB ns)), none]) (ω' := none) (xd_if (b := toldB ns) (et_B (ed_var rfl)) (fun c => ?_) (fun c => ?_)) ?_
  · have O := other_ask (other := otherF ns) (game_G 2 (mixed ns 0)) (mixed ns 3)
    rw [← one_told c] at O
    refine xd_seq (xd_asg (d := (oneF ns).data) (ed_is (ed_call (ds := [.int (mixed ns 0), .int ((2 : Nat) : Int)]) (eds_cons (ed_call (eds_cons (ed_var rfl) (eds_cons ed_int eds_nil)) ⟨ns, 0, rfl, by decide, by decide, rfl⟩) (eds_cons ed_int eds_nil)) ⟨_, 2, rfl, (mb 0).1, by decide, rfl⟩) (by rw [one_told c]))) ?_
    refine xd_asg (d := (otherF ns).data) (ed_call (ds := [(oneF ns).data, .int (mixed ns 3)]) (eds_cons (ed_var rfl) (eds_cons (ed_call (eds_cons (ed_var rfl) (eds_cons ed_int eds_nil)) ⟨ns, 3, rfl, by decide, by decide, rfl⟩) eds_nil)) ⟨oneF ns, mixed ns 3, rfl, (mb 3).1, by rw [one_told c]; exact game_G 2 _, O.1, O.2.1, O.2.2.1, O.2.2.2.1, O.2.2.2.2, O.2.2.1, by rw [other_told c, one_told c]⟩)
  · rw [one_drawn c, other_drawn c]
    exact xd_next
  refine xd_seq (xd_asg (d := .bool (leV (oneF ns) (otherF ns) && leV (otherF ns) (oneF ns))) (ed_is (ed_andV (x := !wnV (adV (oneF ns) (tnV (otherF ns))) 0) (y := !wnV (adV (otherF ns) (tnV (oneF ns))) 0) (ed_call (eds_cons (ed_var (i := 1) rfl) (eds_cons (ed_var (i := 2) rfl) eds_nil)) ⟨_, _, rfl, A.1.1, A.1.2.1, A.1.2.2.1, A.1.2.2.2, rfl⟩)
    fun _ => ed_call (eds_cons (ed_var (i := 2) rfl) (eds_cons (ed_var (i := 1) rfl) eds_nil)) ⟨_, _, rfl, A.2.1, A.2.2.1, A.2.2.2.1, A.2.2.2.2, rfl⟩) (by rw [v1, v2]))) ?_
  refine (show XD K _ [some (.list (ns.map PyData.int)), some (oneF ns).data, some (otherF ns).data, some (.bool (toldB ns)), some (.bool (leV (oneF ns) (otherF ns) && leV (otherF ns) (oneF ns)))] none _ from ?_)
  refine xd_seq (xd_ifF (et_is' (et_and (x := toldB ns) (y := !(leV (oneF ns) (otherF ns) && leV (otherF ns) (oneF ns))) (et_B (ed_var rfl)) fun _ => et_not (et_B (ed_var rfl))) ?_) xd_next) ?_
  · cases c : toldB ns with
    | false => rfl
    | true =>
      have e := told_alike w c
      rw [e.1, e.2]; rfl
  have s1 : SeqAt.shaped (plainV (oneF ns)).data = true := (fit_T (Nat.le_refl _)).shaped (by have := run_plain R1 r1; omega)
  have s2 : SeqAt.shaped (plainV (otherF ns)).data = true := (fit_T (Nat.le_refl _)).shaped (by have := run_plain R2 r2; omega)
  refine xd_ret (ed_is (ed_op (ed_op (ed_call (eds_cons (ed_var (i := 1) rfl) eds_nil) ⟨oneF ns, rfl, r1, rfl⟩) (ed_call (eds_cons (ed_var (i := 2) rfl) eds_nil) ⟨otherF ns, rfl, r2, rfl⟩) (rd_eqU s1 s2)) (ed_var (i := 4) rfl) (rd_eqU rfl rfl)) ?_)
  rw [eqv_bool, T.data_eqv]
  congr 1
  refine decide_eq_true ?_
  cases c : leV (oneF ns) (otherF ns) && leV (otherF ns) (oneF ns) with
  | true =>
    rw [Bool.and_eq_true] at c
    exact decide_eq_true (same.mpr c)
  | false =>
    refine decide_eq_false fun e => ?_
    have := same.mp e
    rw [this.1, this.2] at c
    cases c
end
end LM

set_option Elab.async false
set_option linter.all false
set_option maxRecDepth 100000
set_option maxHeartbeats 4000000
namespace LM
open PySem PySem.Spec PyProof.Rows L2 Evl
theorem all_mk {l : PySem.W.OpenLaw} {w : World} {K : PySem.W.Frag} {h : Heap} {mg : Str → Option Value} {fa : Addr} (X : K.In h) (G : h.Ns mainGlobals mg) (hfa : mg "law" = some (.ref fa))
    {f0 : Addr} {od0 an0 : Option Addr} {sl0 : Array (Option Value)} {oc0 kV0 dc0 pm0 cd0 ct0 : Value} {f1 : Addr} {od1 an1 : Option Addr} {sl1 : Array (Option Value)} {oc1 kV1 dc1 pm1 cd1 ct1 : Value} {f2 : Addr} {od2 an2 : Option Addr} {sl2 : Array (Option Value)} {oc2 kV2 dc2 pm2 cd2 ct2 : Value} {f3 : Addr} {od3 an3 : Option Addr} {sl3 : Array (Option Value)} {oc3 kV3 dc3 pm3 cd3 ct3 : Value} {f4 : Addr} {od4 an4 : Option Addr} {sl4 : Array (Option Value)} {oc4 kV4 dc4 pm4 cd4 ct4 : Value} {f5 : Addr} {od5 an5 : Option Addr} {sl5 : Array (Option Value)} {oc5 kV5 dc5 pm5 cd5 ct5 : Value} {f6 : Addr} {od6 an6 : Option Addr} {sl6 : Array (Option Value)} {oc6 kV6 dc6 pm6 cd6 ct6 : Value} {f7 : Addr} {od7 an7 : Option Addr} {sl7 : Array (Option Value)} {oc7 kV7 dc7 pm7 cd7 ct7 : Value} {f8 : Addr} {od8 an8 : Option Addr} {sl8 : Array (Option Value)} {oc8 kV8 dc8 pm8 cd8 ct8 : Value} {f9 : Addr} {od9 an9 : Option Addr} {sl9 : Array (Option Value)} {oc9 kV9 dc9 pm9 cd9 ct9 : Value} {f10 : Addr} {od10 an10 : Option Addr} {sl10 : Array (Option Value)} {oc10 kV10 dc10 pm10 cd10 ct10 : Value} {f11 : Addr} {od11 an11 : Option Addr} {sl11 : Array (Option Value)} {oc11 kV11 dc11 pm11 cd11 ct11 : Value} {f12 : Addr} {od12 an12 : Option Addr} {sl12 : Array (Option Value)} {oc12 kV12 dc12 pm12 cd12 ct12 : Value} {f13 : Addr} {od13 an13 : Option Addr} {sl13 : Array (Option Value)} {oc13 kV13 dc13 pm13 cd13 ct13 : Value} {f14 : Addr} {od14 an14 : Option Addr} {sl14 : Array (Option Value)} {oc14 kV14 dc14 pm14 cd14 ct14 : Value} {cPlainer : Addr} {mf0 : Addr} {mod0 man0 : Option Addr} {msl0 : Array (Option Value)} {moc0 mkV0 mdc0 mpm0 mcd0 mct0 : Value} {mf1 : Addr} {mod1 man1 : Option Addr} {msl1 : Array (Option Value)} {moc1 mkV1 mdc1 mpm1 mcd1 mct1 : Value} {mf2 : Addr} {mod2 man2 : Option Addr} {msl2 : Array (Option Value)} {moc2 mkV2 mdc2 mpm2 mcd2 mct2 : Value} {mf3 : Addr} {mod3 man3 : Option Addr} {msl3 : Array (Option Value)} {moc3 mkV3 mdc3 mpm3 mcd3 mct3 : Value} {mf4 : Addr} {mod4 man4 : Option Addr} {msl4 : Array (Option Value)} {moc4 mkV4 mdc4 mpm4 mcd4 mct4 : Value} {mf5 : Addr} {mod5 man5 : Option Addr} {msl5 : Array (Option Value)} {moc5 mkV5 mdc5 mpm5 mcd5 mct5 : Value}
    (a0 : PySem.W.nsIn K mainGlobals "at_most_in" = some (some (.ref f0))) (l0 : K.lookup f0 = some ⟨oc0, od0, .func (PySem.W.fnOf "at_most_in" "at_most_in" (defArgs sAtMostIn) (defBody sAtMostIn) (defScope sAtMostIn) .none kV0 dc0 pm0 an0 cd0 ct0), sl0⟩) (c0 : PySem.W.codeIn K cd0 "at_most_in" = true) (k0 : PySem.W.keepIn K (.ref f0) = true)
    (a1 : PySem.W.nsIn K mainGlobals "game_by" = some (some (.ref f1))) (l1 : K.lookup f1 = some ⟨oc1, od1, .func (PySem.W.fnOf "game_by" "game_by" (defArgs sGameBy) (defBody sGameBy) (defScope sGameBy) .none kV1 dc1 pm1 an1 cd1 ct1), sl1⟩) (c1 : PySem.W.codeIn K cd1 "game_by" = true) (k1 : PySem.W.keepIn K (.ref f1) = true)
    (a2 : PySem.W.nsIn K mainGlobals "plain" = some (some (.ref f2))) (l2 : K.lookup f2 = some ⟨oc2, od2, .func (PySem.W.fnOf "plain" "plain" (defArgs sPlain) (defBody sPlain) (defScope sPlain) .none kV2 dc2 pm2 an2 cd2 ct2), sl2⟩) (c2 : PySem.W.codeIn K cd2 "plain" = true) (k2 : PySem.W.keepIn K (.ref f2) = true)
    (a3 : PySem.W.nsIn K mainGlobals "_law_cell_at" = some (some (.ref f3))) (l3 : K.lookup f3 = some ⟨oc3, od3, .func (PySem.W.fnOf "_law_cell_at" "_law_cell_at" (defArgs sLawCellAt) (defBody sLawCellAt) (defScope sLawCellAt) .none kV3 dc3 pm3 an3 cd3 ct3), sl3⟩) (c3 : PySem.W.codeIn K cd3 "_law_cell_at" = true) (k3 : PySem.W.keepIn K (.ref f3) = true)
    (a4 : PySem.W.nsIn K mainGlobals "_law_mixed" = some (some (.ref f4))) (l4 : K.lookup f4 = some ⟨oc4, od4, .func (PySem.W.fnOf "_law_mixed" "_law_mixed" (defArgs sLawMixed) (defBody sLawMixed) (defScope sLawMixed) .none kV4 dc4 pm4 an4 cd4 ct4), sl4⟩) (c4 : PySem.W.codeIn K cd4 "_law_mixed" = true) (k4 : PySem.W.keepIn K (.ref f4) = true)
    (a5 : PySem.W.nsIn K mainGlobals "_law_drawn" = some (some (.ref f5))) (l5 : K.lookup f5 = some ⟨oc5, od5, .func (PySem.W.fnOf "_law_drawn" "_law_drawn" (defArgs sLawDrawn) (defBody sLawDrawn) (defScope sLawDrawn) .none kV5 dc5 pm5 an5 cd5 ct5), sl5⟩) (c5 : PySem.W.codeIn K cd5 "_law_drawn" = true) (k5 : PySem.W.keepIn K (.ref f5) = true)
    (a6 : PySem.W.nsIn K mainGlobals "_law_once" = some (some (.ref f6))) (l6 : K.lookup f6 = some ⟨oc6, od6, .func (PySem.W.fnOf "_law_once" "_law_once" (defArgs sLawOnce) (defBody sLawOnce) (defScope sLawOnce) .none kV6 dc6 pm6 an6 cd6 ct6), sl6⟩) (c6 : PySem.W.codeIn K cd6 "_law_once" = true) (k6 : PySem.W.keepIn K (.ref f6) = true)
    (a7 : PySem.W.nsIn K mainGlobals "_law_by" = some (some (.ref f7))) (l7 : K.lookup f7 = some ⟨oc7, od7, .func (PySem.W.fnOf "_law_by" "_law_by" (defArgs sLawBy) (defBody sLawBy) (defScope sLawBy) .none kV7 dc7 pm7 an7 cd7 ct7), sl7⟩) (c7 : PySem.W.codeIn K cd7 "_law_by" = true) (k7 : PySem.W.keepIn K (.ref f7) = true)
    (a8 : PySem.W.nsIn K mainGlobals "_law_game" = some (some (.ref f8))) (l8 : K.lookup f8 = some ⟨oc8, od8, .func (PySem.W.fnOf "_law_game" "_law_game" (defArgs sLawGame) (defBody sLawGame) (defScope sLawGame) .none kV8 dc8 pm8 an8 cd8 ct8), sl8⟩) (c8 : PySem.W.codeIn K cd8 "_law_game" = true) (k8 : PySem.W.keepIn K (.ref f8) = true)
    (a9 : PySem.W.nsIn K mainGlobals "_law_wins" = some (some (.ref f9))) (l9 : K.lookup f9 = some ⟨oc9, od9, .func (PySem.W.fnOf "_law_wins" "_law_wins" (defArgs sLawWins) (defBody sLawWins) (defScope sLawWins) .none kV9 dc9 pm9 an9 cd9 ct9), sl9⟩) (c9 : PySem.W.codeIn K cd9 "_law_wins" = true) (k9 : PySem.W.keepIn K (.ref f9) = true)
    (a10 : PySem.W.nsIn K mainGlobals "_law_turned" = some (some (.ref f10))) (l10 : K.lookup f10 = some ⟨oc10, od10, .func (PySem.W.fnOf "_law_turned" "_law_turned" (defArgs sLawTurned) (defBody sLawTurned) (defScope sLawTurned) .none kV10 dc10 pm10 an10 cd10 ct10), sl10⟩) (c10 : PySem.W.codeIn K cd10 "_law_turned" = true) (k10 : PySem.W.keepIn K (.ref f10) = true)
    (a11 : PySem.W.nsIn K mainGlobals "_law_sum" = some (some (.ref f11))) (l11 : K.lookup f11 = some ⟨oc11, od11, .func (PySem.W.fnOf "_law_sum" "_law_sum" (defArgs sLawSum) (defBody sLawSum) (defScope sLawSum) .none kV11 dc11 pm11 an11 cd11 ct11), sl11⟩) (c11 : PySem.W.codeIn K cd11 "_law_sum" = true) (k11 : PySem.W.keepIn K (.ref f11) = true)
    (a12 : PySem.W.nsIn K mainGlobals "_law_at_most" = some (some (.ref f12))) (l12 : K.lookup f12 = some ⟨oc12, od12, .func (PySem.W.fnOf "_law_at_most" "_law_at_most" (defArgs sLawAtMost) (defBody sLawAtMost) (defScope sLawAtMost) .none kV12 dc12 pm12 an12 cd12 ct12), sl12⟩) (c12 : PySem.W.codeIn K cd12 "_law_at_most" = true) (k12 : PySem.W.keepIn K (.ref f12) = true)
    (a13 : PySem.W.nsIn K mainGlobals "_law_otherwise" = some (some (.ref f13))) (l13 : K.lookup f13 = some ⟨oc13, od13, .func (PySem.W.fnOf "_law_otherwise" "_law_otherwise" (defArgs sLawOtherwise) (defBody sLawOtherwise) (defScope sLawOtherwise) .none kV13 dc13 pm13 an13 cd13 ct13), sl13⟩) (c13 : PySem.W.codeIn K cd13 "_law_otherwise" = true) (k13 : PySem.W.keepIn K (.ref f13) = true)
    (a14 : PySem.W.nsIn K mainGlobals "law" = some (some (.ref f14))) (l14 : K.lookup f14 = some ⟨oc14, od14, .func (PySem.W.fnOf "law" "law" (defArgs sLaw) (defBody sLaw) (defScope sLaw) .none kV14 dc14 pm14 an14 cd14 ct14), sl14⟩) (c14 : PySem.W.codeIn K cd14 "law" = true) (k14 : PySem.W.keepIn K (.ref f14) = true)
    (z0 : PySem.W.nsIn K mainGlobals "len" = some none)
    (z1 : PySem.W.nsIn K mainGlobals "range" = some none)
    (z2 : PySem.W.nsIn K mainGlobals "sorted" = some none)
    (z3 : PySem.W.nsIn K mainGlobals "set" = some none)
    (z4 : PySem.W.nsIn K mainGlobals "tuple" = some none)
    (z5 : PySem.W.nsIn K mainGlobals "list" = some none)
    (z6 : PySem.W.nsIn K mainGlobals "zip" = some none)
    (z7 : PySem.W.nsIn K mainGlobals "all" = some none)
    (z8 : PySem.W.nsIn K mainGlobals "any" = some none)
    (z9 : PySem.W.nsIn K mainGlobals "sum" = some none)
    (z10 : PySem.W.nsIn K mainGlobals "max" = some none)
    (z11 : PySem.W.nsIn K mainGlobals "min" = some none)
    (z12 : PySem.W.nsIn K mainGlobals "isinstance" = some none)
    (z13 : PySem.W.nsIn K mainGlobals "int" = some none)
    (z14 : PySem.W.nsIn K mainGlobals "bool" = some none)
    (z15 : PySem.W.nsIn K mainGlobals "str" = some none)
    (z16 : PySem.W.nsIn K mainGlobals "abs" = some none)
    (z17 : PySem.W.nsIn K mainGlobals "enumerate" = some none)
    (z18 : PySem.W.nsIn K mainGlobals "repr" = some none)
    (z19 : PySem.W.nsIn K mainGlobals "ValueError" = some none)
    (oaPlainer : PySem.W.nsIn K mainGlobals "Plainer" = some (some (.ref cPlainer))) (okPlainer : PySem.W.keepIn K (.ref cPlainer) = true) (omPlainer : PySem.W.makesIn K cPlainer = true) (ogPlainer : PySem.W.plainGet K cPlainer Str.empty = true) (ohPlainer : PySem.W.hasDictIn K cPlainer = true) (opPlainer : PySem.W.plainOver K cPlainer = true) (osPlainer : PySem.W.findIn K (.ref cPlainer) "__setattr__" = some (some (.builtin "object.__setattr__")))
    (ma0 : PySem.W.findIn K (.ref cPlainer) "__init__" = some (some (.ref mf0))) (mi0 : PySem.W.isFn K (.ref mf0) = true) (ml0 : K.lookup mf0 = some ⟨moc0, mod0, .func (PySem.W.fnOf "__init__" "Plainer.__init__" (defArgs sPlainerInit) (defBody sPlainerInit) (defScope sPlainerInit) .none mkV0 mdc0 mpm0 man0 mcd0 mct0), msl0⟩) (mc0 : PySem.W.codeIn K mcd0 "Plainer.__init__" = true) (mk0 : PySem.W.keepIn K (.ref mf0) = true)
    (ma1 : PySem.W.findIn K (.ref cPlainer) "is_below" = some (some (.ref mf1))) (mi1 : PySem.W.isFn K (.ref mf1) = true) (ml1 : K.lookup mf1 = some ⟨moc1, mod1, .func (PySem.W.fnOf "is_below" "Plainer.is_below" (defArgs sPlainerIsBelow) (defBody sPlainerIsBelow) (defScope sPlainerIsBelow) .none mkV1 mdc1 mpm1 man1 mcd1 mct1), msl1⟩) (mc1 : PySem.W.codeIn K mcd1 "Plainer.is_below" = true) (mk1 : PySem.W.keepIn K (.ref mf1) = true)
    (ma2 : PySem.W.findIn K (.ref cPlainer) "way_back" = some (some (.ref mf2))) (mi2 : PySem.W.isFn K (.ref mf2) = true) (ml2 : K.lookup mf2 = some ⟨moc2, mod2, .func (PySem.W.fnOf "way_back" "Plainer.way_back" (defArgs sPlainerWayBack) (defBody sPlainerWayBack) (defScope sPlainerWayBack) .none mkV2 mdc2 mpm2 man2 mcd2 mct2), msl2⟩) (mc2 : PySem.W.codeIn K mcd2 "Plainer.way_back" = true) (mk2 : PySem.W.keepIn K (.ref mf2) = true)
    (ma3 : PySem.W.findIn K (.ref cPlainer) "led" = some (some (.ref mf3))) (mi3 : PySem.W.isFn K (.ref mf3) = true) (ml3 : K.lookup mf3 = some ⟨moc3, mod3, .func (PySem.W.fnOf "led" "Plainer.led" (defArgs sPlainerLed) (defBody sPlainerLed) (defScope sPlainerLed) .none mkV3 mdc3 mpm3 man3 mcd3 mct3), msl3⟩) (mc3 : PySem.W.codeIn K mcd3 "Plainer.led" = true) (mk3 : PySem.W.keepIn K (.ref mf3) = true)
    (ma4 : PySem.W.findIn K (.ref cPlainer) "best" = some (some (.ref mf4))) (mi4 : PySem.W.isFn K (.ref mf4) = true) (ml4 : K.lookup mf4 = some ⟨moc4, mod4, .func (PySem.W.fnOf "best" "Plainer.best" (defArgs sPlainerBest) (defBody sPlainerBest) (defScope sPlainerBest) .none mkV4 mdc4 mpm4 man4 mcd4 mct4), msl4⟩) (mc4 : PySem.W.codeIn K mcd4 "Plainer.best" = true) (mk4 : PySem.W.keepIn K (.ref mf4) = true)
    (ma5 : PySem.W.findIn K (.ref cPlainer) "plain" = some (some (.ref mf5))) (mi5 : PySem.W.isFn K (.ref mf5) = true) (ml5 : K.lookup mf5 = some ⟨moc5, mod5, .func (PySem.W.fnOf "plain" "Plainer.plain" (defArgs sPlainerPlain) (defBody sPlainerPlain) (defScope sPlainerPlain) .none mkV5 mdc5 mpm5 man5 mcd5 mct5), msl5⟩) (mc5 : PySem.W.codeIn K mcd5 "Plainer.plain" = true) (mk5 : PySem.W.keepIn K (.ref mf5) = true)
    (na0 : PySem.W.findIn K (.ref cPlainer) "known" = some none)
    (na1 : PySem.W.findIn K (.ref cPlainer) "plains" = some none)
    : ∃ fd : FuncData, (∀ (s : Shared) (v : Value), BindsTo s fd ⟨[v], []⟩ [("_law_script", v)]) ∧ ∀ base : Heap, K.In base → base.Ns mainGlobals mg → FnG l.prog w K mg base 67 fa fd ["_law_script"] (SpR K RLaw) := by
  have e := hfa.symm.trans (PySem.W.mg_of X G a14)
  cases e
  have F_at_most_in := fun_mk (st := sAtMostIn) l0 c0 k0
  have b_at_most_in := F_at_most_in.binds (ps := ["one", "other", "known"]) fun _ _ _ _ _ _ us hl => match us, hl with | [_, _, _], _ => rfl
  have m_at_most_in := PySem.W.mg_of X G a0
  have F_game_by := fun_mk (st := sGameBy) l1 c1 k1
  have b_game_by := F_game_by.binds (ps := ["lefts", "rights"]) fun _ _ _ _ _ _ us hl => match us, hl with | [_, _], _ => rfl
  have m_game_by := PySem.W.mg_of X G a1
  have F_plain := fun_mk (st := sPlain) l2 c2 k2
  have b_plain := F_plain.binds (ps := ["game"]) fun _ _ _ _ _ _ us hl => match us, hl with | [_], _ => rfl
  have m_plain := PySem.W.mg_of X G a2
  have F__law_cell_at := fun_mk (st := sLawCellAt) l3 c3 k3
  have b__law_cell_at := F__law_cell_at.binds (ps := ["_law_script", "_law_k"]) fun _ _ _ _ _ _ us hl => match us, hl with | [_, _], _ => rfl
  have m__law_cell_at := PySem.W.mg_of X G a3
  have F__law_mixed := fun_mk (st := sLawMixed) l4 c4 k4
  have b__law_mixed := F__law_mixed.binds (ps := ["_law_script", "_law_k"]) fun _ _ _ _ _ _ us hl => match us, hl with | [_, _], _ => rfl
  have m__law_mixed := PySem.W.mg_of X G a4
  have F__law_drawn := fun_mk (st := sLawDrawn) l5 c5 k5
  have b__law_drawn := F__law_drawn.binds (ps := ["_law_number", "_law_k"]) fun _ _ _ _ _ _ us hl => match us, hl with | [_, _], _ => rfl
  have m__law_drawn := PySem.W.mg_of X G a5
  have F__law_once := fun_mk (st := sLawOnce) l6 c6 k6
  have b__law_once := F__law_once.binds (ps := ["_law_some"]) fun _ _ _ _ _ _ us hl => match us, hl with | [_], _ => rfl
  have m__law_once := PySem.W.mg_of X G a6
  have F__law_by := fun_mk (st := sLawBy) l7 c7 k7
  have b__law_by := F__law_by.binds (ps := ["_law_lefts", "_law_rights"]) fun _ _ _ _ _ _ us hl => match us, hl with | [_, _], _ => rfl
  have m__law_by := PySem.W.mg_of X G a7
  have F__law_game := fun_mk (st := sLawGame) l8 c8 k8
  have b__law_game := F__law_game.binds (ps := ["_law_number", "_law_deep"]) fun _ _ _ _ _ _ us hl => match us, hl with | [_, _], _ => rfl
  have m__law_game := PySem.W.mg_of X G a8
  have F__law_wins := fun_mk (st := sLawWins) l9 c9 k9
  have b__law_wins := F__law_wins.binds (ps := ["_law_game_here", "_law_who", "_law_known"]) fun _ _ _ _ _ _ us hl => match us, hl with | [_, _, _], _ => rfl
  have m__law_wins := PySem.W.mg_of X G a9
  have F__law_turned := fun_mk (st := sLawTurned) l10 c10 k10
  have b__law_turned := F__law_turned.binds (ps := ["_law_game_here"]) fun _ _ _ _ _ _ us hl => match us, hl with | [_], _ => rfl
  have m__law_turned := PySem.W.mg_of X G a10
  have F__law_sum := fun_mk (st := sLawSum) l11 c11 k11
  have b__law_sum := F__law_sum.binds (ps := ["_law_one", "_law_other", "_law_known"]) fun _ _ _ _ _ _ us hl => match us, hl with | [_, _, _], _ => rfl
  have m__law_sum := PySem.W.mg_of X G a11
  have F__law_at_most := fun_mk (st := sLawAtMost) l12 c12 k12
  have b__law_at_most := F__law_at_most.binds (ps := ["_law_one", "_law_other"]) fun _ _ _ _ _ _ us hl => match us, hl with | [_, _], _ => rfl
  have m__law_at_most := PySem.W.mg_of X G a12
  have F__law_otherwise := fun_mk (st := sLawOtherwise) l13 c13 k13
  have b__law_otherwise := F__law_otherwise.binds (ps := ["_law_game_here", "_law_number"]) fun _ _ _ _ _ _ us hl => match us, hl with | [_, _], _ => rfl
  have m__law_otherwise := PySem.W.mg_of X G a13
  have F_law := fun_mk (st := sLaw) l14 c14 k14
  have M_Plainer : Cls K cPlainer := ⟨ogPlainer, ohPlainer, opPlainer, osPlainer⟩
  have g_Plainer := PySem.W.mg_of X G oaPlainer
  have n_Plainer_known : NoAttr K cPlainer "known" := na0
  have n_Plainer_plains : NoAttr K cPlainer "plains" := na1
  have F_Plainer___init__ := fun_mk (st := sPlainerInit) ml0 mc0 mk0
  have b_Plainer___init__ := F_Plainer___init__.binds (ps := ["self"]) fun _ _ _ _ _ _ us hl => match us, hl with | [_], _ => rfl
  have K_Plainer : Mk K cPlainer mf0 := ⟨omPlainer, ma0, mi0, okPlainer⟩
  have F_Plainer_is_below := fun_mk (st := sPlainerIsBelow) ml1 mc1 mk1
  have b_Plainer_is_below := F_Plainer_is_below.binds (ps := ["self", "one", "other", "who"]) fun _ _ _ _ _ _ us hl => match us, hl with | [_, _, _, _], _ => rfl
  have m_Plainer_is_below : Meth K cPlainer "is_below" mf1 := ⟨ma1, mi1, mk1⟩
  have F_Plainer_way_back := fun_mk (st := sPlainerWayBack) ml2 mc2 mk2
  have b_Plainer_way_back := F_Plainer_way_back.binds (ps := ["self", "game", "move", "who"]) fun _ _ _ _ _ _ us hl => match us, hl with | [_, _, _, _], _ => rfl
  have m_Plainer_way_back : Meth K cPlainer "way_back" mf2 := ⟨ma2, mi2, mk2⟩
  have F_Plainer_led := fun_mk (st := sPlainerLed) ml3 mc3 mk3
  have b_Plainer_led := F_Plainer_led.binds (ps := ["self", "game", "who"]) fun _ _ _ _ _ _ us hl => match us, hl with | [_, _, _], _ => rfl
  have m_Plainer_led : Meth K cPlainer "led" mf3 := ⟨ma3, mi3, mk3⟩
  have F_Plainer_best := fun_mk (st := sPlainerBest) ml4 mc4 mk4
  have b_Plainer_best := F_Plainer_best.binds (ps := ["self", "moves", "who"]) fun _ _ _ _ _ _ us hl => match us, hl with | [_, _, _], _ => rfl
  have m_Plainer_best : Meth K cPlainer "best" mf4 := ⟨ma4, mi4, mk4⟩
  have F_Plainer_plain := fun_mk (st := sPlainerPlain) ml5 mc5 mk5
  have b_Plainer_plain := F_Plainer_plain.binds (ps := ["self", "game"]) fun _ _ _ _ _ _ us hl => match us, hl with | [_, _], _ => rfl
  have m_Plainer_plain : Meth K cPlainer "plain" mf5 := ⟨ma5, mi5, mk5⟩
  have B : BI mg := ⟨PySem.W.mg_none_of X G z0, PySem.W.mg_none_of X G z1, PySem.W.mg_none_of X G z2, PySem.W.mg_none_of X G z3, PySem.W.mg_none_of X G z4, PySem.W.mg_none_of X G z5, PySem.W.mg_none_of X G z6, PySem.W.mg_none_of X G z7, PySem.W.mg_none_of X G z8, PySem.W.mg_none_of X G z9, PySem.W.mg_none_of X G z10, PySem.W.mg_none_of X G z11, PySem.W.mg_none_of X G z12, PySem.W.mg_none_of X G z13, PySem.W.mg_none_of X G z14, PySem.W.mg_none_of X G z15, PySem.W.mg_none_of X G z16, PySem.W.mg_none_of X G z17, PySem.W.mg_none_of X G z18, PySem.W.mg_none_of X G z19⟩
  refine ⟨PySem.W.fnOf "law" "law" (defArgs sLaw) (defBody sLaw) (defScope sLaw) .none kV14 dc14 pm14 an14 cd14 ct14, fun s v => .of_eq rfl, fun base _ _ => ?_⟩
  have Z : PFacts K cPlainer := ⟨M_Plainer, n_Plainer_known, n_Plainer_plains⟩
  have h_gb : Has l.prog w K mg base 1 "game_by" (SpR K (RGameByA w)) := has_game_by (k := 0) B F_game_by b_game_by m_game_by
  have h_plain : ∀ {Gp : T → Prop} {U3 U4 : List T}, RunOk w Gp U3 U4 → Has l.prog w K mg base 66 "plain" (SpR K (RPlainF Gp)) := fun {Gp U3 U4} R => by
    have Q := plOk_of R
    have h_atm : Has l.prog w K mg base 41 "at_most_in" (SpM K (RAtMost K w (PrD (DD U3 U4)) 41)) := has_at_most_in (k := 0) B Q.gm F_at_most_in b_at_most_in m_at_most_in 41
    have h_below : HasM l.prog w K mg base 42 cPlainer "is_below" (SpM K (RPBelow K w (GmD U3 U4) (PrD (DD U3 U4)) Gp cPlainer)) := ⟨_, _, _, fn_Plainer_is_below B Q Z F_Plainer_is_below h_atm, m_Plainer_is_below, b_Plainer_is_below⟩
    have h_way : HasM l.prog w K mg base 43 cPlainer "way_back" (SpM K (RPWay K w (GmD U3 U4) (PrD (DD U3 U4)) Gp cPlainer)) := ⟨_, _, _, fn_Plainer_way_back B Q Z F_Plainer_way_back h_below, m_Plainer_way_back, b_Plainer_way_back⟩
    have h_led : HasM l.prog w K mg base 44 cPlainer "led" (SpM K (RPLed K w (GmD U3 U4) (PrD (DD U3 U4)) Gp cPlainer)) := ⟨_, _, _, fn_Plainer_led B Q Z F_Plainer_led h_way, m_Plainer_led, b_Plainer_led⟩
    have h_best : HasM l.prog w K mg base 43 cPlainer "best" (SpM K (RPBest K w (GmD U3 U4) (PrD (DD U3 U4)) Gp cPlainer)) := ⟨_, _, _, fn_Plainer_best B Q Z F_Plainer_best h_below, m_Plainer_best, b_Plainer_best⟩
    have h_ppl : HasM l.prog w K mg base 65 cPlainer "plain" (SpM K (RPPlain K w (PrD (DD U3 U4)) Gp cPlainer 21)) := has_Plainer_plain (k := 44) B Q Z F_Plainer_plain m_Plainer_plain b_Plainer_plain (h_best.mono (by decide)) h_led (h_gb.mono (by decide)) 21
    have mk : HasMk l.prog w K mg base 1 "Plainer" cPlainer (SpM K (RPInit K w (PrD (DD U3 U4)) Gp cPlainer)) := ⟨_, _, _, fn_Plainer_init (k := 0) B Z F_Plainer___init__, K_Plainer, g_Plainer, b_Plainer___init__⟩
    exact has_plain (k := 65) B Q Z F_plain b_plain m_plain mk (by decide) h_ppl
  have h_once : Has l.prog w K mg base 1 "_law_once" (SpR K ROnceA) := has__law_onceA (k := 0) B F__law_once b__law_once m__law_once
  have h_byA : Has l.prog w K mg base 2 "_law_by" (SpR K RByA) := has__law_byA B F__law_by b__law_by m__law_by h_once
  have h_by : Has l.prog w K mg base 2 "_law_by" (SpR K RBy) := by_list h_byA
  have h_cell : Has l.prog w K mg base 1 "_law_cell_at" (SpR K RCell) := has__law_cell_at B F__law_cell_at b__law_cell_at m__law_cell_at
  have h_mixed : Has l.prog w K mg base 2 "_law_mixed" (SpR K RMixed) := has__law_mixed B F__law_mixed b__law_mixed m__law_mixed h_cell
  have h_drawn : Has l.prog w K mg base 1 "_law_drawn" (SpR K RDrawn) := has__law_drawn (k := 0) B F__law_drawn b__law_drawn m__law_drawn
  have h_game : Has l.prog w K mg base 6 "_law_game" (SpR K (RGame 4)) := has__law_game (k := 2) B F__law_game b__law_game m__law_game (h_drawn.mono (by decide)) h_by 4 (by decide)
  exact FnG.all fun ns => by
    have W := two_F w ns
    have US := us_ok W
    obtain ⟨G1, U3, U4, R1, r1⟩ := one_runF w ns
    obtain ⟨G2, V3, V4, R2, r2⟩ := other_runF w ns
    have SU : SumOk (Fp (oneF ns) (otherF ns)) := fm_sum US
    have TU : TnOk w (Fp (oneF ns) (otherF ns)) := fm_tn US
    have WU := fw_ok W
    have h_lturned : Has l.prog w K mg base 23 "_law_turned" (SpR K (RTurned (Fp (oneF ns) (otherF ns)) 21)) := has__law_turned (k := 2) B TU F__law_turned b__law_turned m__law_turned h_by 21
    have h_wins : HasG l.prog w K mg base 21 "_law_wins" (SpM K (RWins K (Fw (oneF ns) (otherF ns)) 21)) := gs__law_wins (k := 0) B WU F__law_wins b__law_wins m__law_wins 21
    have h_sum : HasG l.prog w K mg base 43 "_law_sum" (SpM K (RSum K (Fp (oneF ns) (otherF ns)) 41)) := gs__law_sum (k := 2) B SU F__law_sum b__law_sum m__law_sum h_by 41
    have h_less : HasG l.prog w K mg base 44 "_law_at_most" (SpR K (RLess (Fp (oneF ns) (otherF ns)) (Fw (oneF ns) (otherF ns)) (Fp (oneF ns) (otherF ns)))) := gs__law_at_most B SU WU TU F__law_at_most b__law_at_most m__law_at_most (h_lturned.mono (by decide)) h_sum (h_wins.mono (by decide))
    have h_other : HasG l.prog w K mg base 44 "_law_otherwise" (SpR K (ROther (Fp (oneF ns) (otherF ns)) (Fp (oneF ns) (otherF ns)))) := gs__law_otherwise B SU TU F__law_otherwise b__law_otherwise m__law_otherwise (h_lturned.mono (by decide)) (h_byA.mono (by decide)) (h_game.mono (by decide)) h_sum
    exact has_law_one (k := 66) ns R1 r1 R2 r2 B F_law (h_mixed.mono (by decide)) (h_game.mono (by decide)) (h_other.mono (by decide)) (h_less.mono (by decide)) (h_plain R1) (h_plain R2)
end LM
open PySem PySem.W PyProof.Rows
set_option maxHeartbeats 0 in
theorem PySem.Challenge.cw_lastmove_k21_whole_one_plain_form_holds : PySem.Challenge.rw_lastmove_k21_whole_one_plain_form.Holds := by
  w_on; o_law; k_head; (case hw => w_witness2)
  k_fill
  refine LM.walk_ofG (l := PySem.Challenge.rw_lastmove_k21_whole_one_plain_form) (n := 63) (k := 67) (x := "_law_script") (sp := fun w => LM.SpR _ LM.RLaw) rfl (by decide) rfl ⟨rfl, by decide, by decide⟩ (fun w h Y => PySem.W.kIn_of Y) ?F (fun _ _ a ns hl _ hS => ⟨[.list (ns.map PyData.int)], .bool true, _, Evl.Ex.refl _, .cons (.lst hS (LM.ints_dp ns)) .nil, ⟨ns, rfl, rfl⟩, fun v H2 Hm2 g hv => LM.dp_bool hv⟩)
  case F =>
    intro w mg fa h KX G hmg
    refine' LM.all_mk KX G hmg ?a0 ?l0 ?c0 ?k0 ?a1 ?l1 ?c1 ?k1 ?a2 ?l2 ?c2 ?k2 ?a3 ?l3 ?c3 ?k3 ?a4 ?l4 ?c4 ?k4 ?a5 ?l5 ?c5 ?k5 ?a6 ?l6 ?c6 ?k6 ?a7 ?l7 ?c7 ?k7 ?a8 ?l8 ?c8 ?k8 ?a9 ?l9 ?c9 ?k9 ?a10 ?l10 ?c10 ?k10 ?a11 ?l11 ?c11 ?k11 ?a12 ?l12 ?c12 ?k12 ?a13 ?l13 ?c13 ?k13 ?a14 ?l14 ?c14 ?k14 ?z0 ?z1 ?z2 ?z3 ?z4 ?z5 ?z6 ?z7 ?z8 ?z9 ?z10 ?z11 ?z12 ?z13 ?z14 ?z15 ?z16 ?z17 ?z18 ?z19 ?oaPlainer ?okPlainer ?omPlainer ?ogPlainer ?ohPlainer ?opPlainer ?osPlainer ?ma0 ?mi0 ?ml0 ?mc0 ?mk0 ?ma1 ?mi1 ?ml1 ?mc1 ?mk1 ?ma2 ?mi2 ?ml2 ?mc2 ?mk2 ?ma3 ?mi3 ?ml3 ?mc3 ?mk3 ?ma4 ?mi4 ?ml4 ?mc4 ?mk4 ?ma5 ?mi5 ?ml5 ?mc5 ?mk5 ?na0 ?na1
    (case a0 => k_is); (case l0 => k_is); (case c0 => k_is); (case k0 => k_is)
    (case a1 => k_is); (case l1 => k_is); (case c1 => k_is); (case k1 => k_is)
    (case a2 => k_is); (case l2 => k_is); (case c2 => k_is); (case k2 => k_is)
    (case a3 => k_is); (case l3 => k_is); (case c3 => k_is); (case k3 => k_is)
    (case a4 => k_is); (case l4 => k_is); (case c4 => k_is); (case k4 => k_is)
    (case a5 => k_is); (case l5 => k_is); (case c5 => k_is); (case k5 => k_is)
    (case a6 => k_is); (case l6 => k_is); (case c6 => k_is); (case k6 => k_is)
    (case a7 => k_is); (case l7 => k_is); (case c7 => k_is); (case k7 => k_is)
    (case a8 => k_is); (case l8 => k_is); (case c8 => k_is); (case k8 => k_is)
    (case a9 => k_is); (case l9 => k_is); (case c9 => k_is); (case k9 => k_is)
    (case a10 => k_is); (case l10 => k_is); (case c10 => k_is); (case k10 => k_is)
    (case a11 => k_is); (case l11 => k_is); (case c11 => k_is); (case k11 => k_is)
    (case a12 => k_is); (case l12 => k_is); (case c12 => k_is); (case k12 => k_is)
    (case a13 => k_is); (case l13 => k_is); (case c13 => k_is); (case k13 => k_is)
    (case a14 => k_is); (case l14 => k_is); (case c14 => k_is); (case k14 => k_is)
    (case z0 => k_is); (case z1 => k_is); (case z2 => k_is); (case z3 => k_is); (case z4 => k_is); (case z5 => k_is); (case z6 => k_is); (case z7 => k_is); (case z8 => k_is); (case z9 => k_is); (case z10 => k_is); (case z11 => k_is); (case z12 => k_is); (case z13 => k_is); (case z14 => k_is); (case z15 => k_is); (case z16 => k_is); (case z17 => k_is); (case z18 => k_is); (case z19 => k_is)
    (case oaPlainer => k_is); (case okPlainer => k_is); (case omPlainer => k_is); (case ogPlainer => k_is); (case ohPlainer => k_is); (case opPlainer => k_is); (case osPlainer => k_is)
    (case ma0 => k_is); (case mi0 => k_is); (case ml0 => k_is); (case mc0 => k_is); (case mk0 => k_is)
    (case ma1 => k_is); (case mi1 => k_is); (case ml1 => k_is); (case mc1 => k_is); (case mk1 => k_is)
    (case ma2 => k_is); (case mi2 => k_is); (case ml2 => k_is); (case mc2 => k_is); (case mk2 => k_is)
    (case ma3 => k_is); (case mi3 => k_is); (case ml3 => k_is); (case mc3 => k_is); (case mk3 => k_is)
    (case ma4 => k_is); (case mi4 => k_is); (case ml4 => k_is); (case mc4 => k_is); (case mk4 => k_is)
    (case ma5 => k_is); (case mi5 => k_is); (case ml5 => k_is); (case mc5 => k_is); (case mk5 => k_is)
    (case na0 => k_is)
    (case na1 => k_is)
