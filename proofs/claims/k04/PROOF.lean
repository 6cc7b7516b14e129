import PyProof.Rows.All
import Wide.All
import OpenK.AllK
import Wide.FinOn
import HandS.ForMost
import HandS.Evl
import HandS.SortOrd
import HandS.TupAny
import HandS.TupMul
import HandS.Deep
import KE.LtSeq
import HandS.IsInst
import HandS.TupLe
import HandS.SortRule
import HandS.TupSets
import HandS.SetFor
import KE.KeyNested
import HandS.Zip
import HandS.Text
import HandS.Codes
import KE.KRevSl
import HandS.Words
import HandS.Exc
import HandS.ExcOwn
import HandS.ExcIs
import HandS.TryOnly
import HandS.WordsExc
import PyProof.StrOps2
import PySem.Challenge.RW_lastmove_k04_whole_texts_of_moves

set_option Elab.async false
set_option linter.all false
set_option maxRecDepth 100000
/-! Lm1: data in the place of heaps. A reading of the hand layer (TE, TS ..) is told by the data that stand in the slots (Rho):
ED te rho d: the expression gives the data d. XD ts rho om o: the statement ends as o says. Two heaps stand behind: H, all that is tracked,
and Hm, the part that is never changed any more; what a def changes itself (its own list) is in H alone. -/
namespace LM
open PySem L2 Evl

abbrev D := PySem.PyData
abbrev Rho := List (Option D)

/-! ### heaps -/
structure Gr (H Hm H2 Hm2 : Hp) : Prop where
  ex : Ex H H2
  em : Ex Hm Hm2
  sub : Ex Hm2 H2
  own : ∀ a o, H a = some o → Hm a = none → Hm2 a = none
section
variable {H Hm H1 Hm1 H2 Hm2 : Hp} {p : Addr} {o : HO}
theorem Gr.refl (s : Ex Hm H) : Gr H Hm H Hm := ⟨Ex.refl _, Ex.refl _, s, fun _ _ _ h => h⟩
theorem Gr.trans (a : Gr H Hm H1 Hm1) (b : Gr H1 Hm1 H2 Hm2) : Gr H Hm H2 Hm2 :=
  ⟨a.ex.trans b.ex, a.em.trans b.em, b.sub, fun x o h n => b.own x o (a.ex x o h) (a.own x o h n)⟩
theorem upd_ex (s : Ex Hm H) : Ex (upd Hm p o) (upd H p o) := fun a u h => by
  by_cases e : a = p
  · subst e; rw [upd_same] at h ⊢; exact h
  · rw [upd_ne e] at h ⊢; exact s a u h
/-- a new object for all -/
theorem Gr.new (s : Ex Hm H) (h : H p = none) : Gr H Hm (upd H p o) (upd Hm p o) := by
  have hm : Hm p = none := fresh_back s h
  refine ⟨Ex.new h, Ex.new hm, upd_ex s, fun a u e n => ?_⟩
  have hne : a ≠ p := ne_of_none e h
  rw [upd_ne hne]; exact n
/-- a new object of one's own -/
theorem Gr.priv (s : Ex Hm H) (h : H p = none) : Gr H Hm (upd H p o) Hm :=
  ⟨Ex.new h, Ex.refl _, s.trans (Ex.new h), fun _ _ _ n => n⟩
end

/-! ### data -/
section
variable {K : PySem.W.Frag} {H H' : Hp}
mutual
theorem dp_mono (e : Ex H H') : ∀ (d : D) (v : V), Dp K H v d → Dp K H' v d
  | .none, _, h => by cases h; exact .non
  | .bool b, _, h => by cases h; exact .bl b
  | .int i, _, h => by cases h; exact .int i
  | .str x, _, h => by cases h; exact .str x
  | .list ds, _, h => by
    cases h with
    | lst hs ha => exact .lst (ex_l e hs) (dps_mono e ds _ ha)
  | .tuple ds, _, h => by
    cases h with
    | tup hs ha => exact .tup (ex_t e hs) (dps_mono e ds _ ha)
  | .dict _, _, h => by cases h
theorem dps_mono (e : Ex H H') : ∀ (ds : List D) (vs : List V), DpAll K H vs ds → DpAll K H' vs ds
  | [], _, h => by cases h; exact .nil
  | d :: ds, _, h => by
    cases h with
    | cons h1 h2 => exact .cons (dp_mono e d _ h1) (dps_mono e ds _ h2)
end
end
end LM
namespace L2
open PySem Evl LM
section
variable {K : PySem.W.Frag} {H H' : Hp}
theorem Dp.mono {v : V} {d : D} (h : Dp K H v d) (e : Ex H H') : Dp K H' v d := dp_mono e d v h
theorem DpAll.mono {vs : List V} {ds : List D} (h : DpAll K H vs ds) (e : Ex H H') : DpAll K H' vs ds := dps_mono e ds vs h
theorem DpAll.len : ∀ {vs : List V} {ds : List D}, DpAll K H vs ds → vs.length = ds.length
  | _, _, .nil => rfl
  | _, _, .cons _ t => congrArg (· + 1) (DpAll.len t)
theorem DpAll.get : ∀ {vs : List V} {ds : List D} {i : Nat} {d : D}, DpAll K H vs ds → ds[i]? = some d → ∃ v, vs[i]? = some v ∧ Dp K H v d
  | _, _, _, _, .nil, e => by simp at e
  | _, _, 0, d, .cons h _, e => by
    have e' := Option.some.inj (show some _ = some d from e)
    subst e'; exact ⟨_, rfl, h⟩
  | _, _, i + 1, _, .cons _ t, e => by
    obtain ⟨v, h1, h2⟩ := DpAll.get (i := i) t (by simpa using e)
    exact ⟨v, by simpa using h1, h2⟩
theorem DpAll.get' {vs : List V} {ds : List D} {i : Nat} {v : V} (h : DpAll K H vs ds) (e : vs[i]? = some v) : ∃ d, ds[i]? = some d ∧ Dp K H v d := by
  have hl := h.len
  obtain ⟨hi, _⟩ := List.getElem?_eq_some_iff.mp e
  have hd : ds[i]? = some ds[i] := List.getElem?_eq_getElem (by omega)
  obtain ⟨w, h1, h2⟩ := h.get hd
  rw [e] at h1; cases h1
  exact ⟨_, hd, h2⟩
theorem DpAll.app : ∀ {vs ws : List V} {ds es : List D}, DpAll K H vs ds → DpAll K H ws es → DpAll K H (vs ++ ws) (ds ++ es)
  | _, _, _, _, .nil, h => h
  | _, _, _, _, .cons h t, h2 => .cons h (DpAll.app t h2)
theorem DpAll.snoc {vs : List V} {ds : List D} {v : V} {d : D} (h : DpAll K H vs ds) (hv : Dp K H v d) : DpAll K H (vs ++ [v]) (ds ++ [d]) := h.app (.cons hv .nil)
theorem DpAll.drop : ∀ {vs : List V} {ds : List D} (n : Nat), DpAll K H vs ds → DpAll K H (vs.drop n) (ds.drop n)
  | _, _, 0, h => h
  | _, _, _ + 1, .nil => .nil
  | _, _, n + 1, .cons _ t => DpAll.drop n t
theorem DpAll.take : ∀ {vs : List V} {ds : List D} (n : Nat), DpAll K H vs ds → DpAll K H (vs.take n) (ds.take n)
  | _, _, 0, _ => .nil
  | _, _, _ + 1, .nil => .nil
  | _, _, n + 1, .cons h t => .cons h (DpAll.take n t)
theorem DpAll.of_get : ∀ {vs : List V} {ds : List D}, vs.length = ds.length → (∀ (i : Nat) (v : V) (d : PyData), vs[i]? = some v → ds[i]? = some d → Dp K H v d) → DpAll K H vs ds
  | [], [], _, _ => .nil
  | v :: vs, d :: ds, hl, h => .cons (h 0 v d rfl rfl) (DpAll.of_get (by simpa using hl) fun i v d h1 h2 => h (i + 1) v d (by simpa using h1) (by simpa using h2))
  | [], _ :: _, hl, _ => by simp at hl
  | _ :: _, [], hl, _ => by simp at hl
end
end L2
namespace LM
open PySem L2 Evl
section
variable {K : PySem.W.Frag} {H H' : Hp}
theorem dp_int {v : V} {i : Int} (h : Dp K H v (.int i)) : v = .int i := by cases h; rfl
theorem dp_bool {v : V} {b : Bool} (h : Dp K H v (.bool b)) : v = .bl b := by cases h; rfl
theorem dp_str {v : V} {x : Str} (h : Dp K H v (.str x)) : v = .str x := by cases h; rfl
theorem dp_none {v : V} (h : Dp K H v .none) : v = .non := by cases h; rfl
theorem dp_tup {v : V} {ds : List D} (h : Dp K H v (.tuple ds)) : ∃ a xs, v = .ref a ∧ SqT K H a xs ∧ DpAll K H xs ds := by cases h with | tup hs ha => exact ⟨_, _, rfl, hs, ha⟩
theorem dp_lst {v : V} {ds : List D} (h : Dp K H v (.list ds)) : ∃ a xs, v = .ref a ∧ SqL K H a xs ∧ DpAll K H xs ds := by cases h with | lst hs ha => exact ⟨_, _, rfl, hs, ha⟩
theorem dp_ints : ∀ {vs : List V} {ns : List Int}, DpAll K H vs (ns.map PyData.int) → vs = ns.map V.int
  | _, [], .nil => rfl
  | _, _ :: _, .cons h t => by rw [dp_int h, dp_ints t]; rfl
theorem ints_dp : ∀ ns : List Int, DpAll K H (ns.map V.int) (ns.map PyData.int)
  | [] => .nil
  | n :: ns => .cons (.int n) (ints_dp ns)
theorem dp_bools : ∀ {vs : List V} {bs : List Bool}, DpAll K H vs (bs.map PyData.bool) → vs = bs.map V.bl
  | _, [], .nil => rfl
  | _, _ :: _, .cons h t => by rw [dp_bool h, dp_bools t]; rfl
theorem dp_strs : ∀ {vs : List V} {xs : List Str}, DpAll K H vs (xs.map PyData.str) → vs = xs.map V.str
  | _, [], .nil => rfl
  | _, _ :: _, .cons h t => by rw [dp_str h, dp_strs t]; rfl
end

/-! data without lists stay whatever list changes -/
mutual
def imm : D → Bool
  | .list _ => false
  | .dict _ => false
  | .tuple ds => imms ds
  | .none => true
  | .bool _ => true
  | .int _ => true
  | .str _ => true
def imms : List D → Bool
  | [] => true
  | d :: ds => imm d && imms ds
end
def era (H : Hp) (a : Addr) : Hp := fun b => if b = a then none else H b
theorem era_same {H : Hp} {a : Addr} : era H a a = none := by unfold era; rw [if_pos rfl]
theorem era_ne {H : Hp} {a b : Addr} (h : b ≠ a) : era H a b = H b := by unfold era; rw [if_neg h]
theorem era_ex {H : Hp} {a : Addr} : Ex (era H a) H := fun b o h => by
  by_cases e : b = a
  · subst e; rw [era_same] at h; cases h
  · rw [era_ne e] at h; exact h
theorem sqT_era {K : PySem.W.Frag} {H : Hp} {a p : Addr} {vs xs : List V} (ha : H a = some (.lst vs)) (h : SqT K H p xs) : SqT K (era H a) p xs := by
  rcases h with (h | ⟨o, h⟩) | h
  · have : p ≠ a := fun e => by subst e; rw [h] at ha; cases ha
    exact .inl (.inl (by rw [era_ne this]; exact h))
  · have : p ≠ a := fun e => by subst e; rw [h] at ha; cases ha
    exact .inl (.inr ⟨o, by rw [era_ne this]; exact h⟩)
  · exact .inr h
mutual
theorem dp_era {K : PySem.W.Frag} {H : Hp} {a : Addr} {ws : List V} (ha : H a = some (.lst ws)) : ∀ (d : D) (v : V), imm d = true → Dp K H v d → Dp K (era H a) v d
  | .none, _, _, h => by cases h; exact .non
  | .bool b, _, _, h => by cases h; exact .bl b
  | .int i, _, _, h => by cases h; exact .int i
  | .str x, _, _, h => by cases h; exact .str x
  | .list ds, _, q, _ => by simp [imm] at q
  | .tuple ds, _, q, h => by
    cases h with
    | tup hs hd => exact .tup (sqT_era ha hs) (dps_era ha ds _ (by simpa [imm] using q) hd)
  | .dict _, _, _, h => by cases h
theorem dps_era {K : PySem.W.Frag} {H : Hp} {a : Addr} {ws : List V} (ha : H a = some (.lst ws)) : ∀ (ds : List D) (vs : List V), imms ds = true → DpAll K H vs ds → DpAll K (era H a) vs ds
  | [], _, _, h => by cases h; exact .nil
  | d :: ds, _, q, h => by
    cases h with
    | cons h1 h2 =>
      simp only [imms, Bool.and_eq_true] at q
      exact .cons (dp_era ha d _ q.1 h1) (dps_era ha ds _ q.2 h2)
end

/-! ### slots -/
def Sd (K : PySem.W.Frag) (Hm : Hp) (σ : L2.St) (ρ : Rho) : Prop := ∀ (i : Nat) (d : D), ρ[i]? = some (some d) → ∃ v, σ[i]? = some (some v) ∧ Dp K Hm v d
theorem Sd.mono {K : PySem.W.Frag} {Hm Hm' : Hp} {σ : L2.St} {ρ : Rho} (h : Sd K Hm σ ρ) (e : Ex Hm Hm') : Sd K Hm' σ ρ := fun i d hi =>
  let ⟨v, h1, h2⟩ := h i d hi
  ⟨v, h1, h2.mono e⟩
theorem set_get {α : Type} {l : List α} {i j : Nat} {x y : α} (h : (l.set i x)[j]? = some y) : (j = i ∧ y = x ∧ i < l.length) ∨ (j ≠ i ∧ l[j]? = some y) := by
  by_cases e : i = j
  · subst e
    by_cases hi : i < l.length
    · rw [List.getElem?_set_self hi] at h
      exact .inl ⟨rfl, (Option.some.inj h).symm, hi⟩
    · rw [List.getElem?_eq_none (by simpa using hi)] at h
      cases h
  · rw [List.getElem?_set_ne e] at h
    exact .inr ⟨fun z => e z.symm, h⟩
theorem Sd.set {K : PySem.W.Frag} {Hm : Hp} {σ : L2.St} {ρ : Rho} {v : V} {d : D} (h : Sd K Hm σ ρ) (hl : ρ.length ≤ σ.length) (i : Nat) (hv : Dp K Hm v d) : Sd K Hm (σ.set i (some v)) (ρ.set i (some d)) := fun j e hj => by
  rcases set_get hj with ⟨rfl, e1, hi⟩ | ⟨hne, h1⟩
  · cases e1
    exact ⟨v, List.getElem?_set_self (by omega), hv⟩
  · obtain ⟨w, h2, h3⟩ := h j e h1
    exact ⟨w, by rw [List.getElem?_set_ne (Ne.symm hne)]; exact h2, h3⟩
/-- a slot is forgotten -/
theorem Sd.drop {K : PySem.W.Frag} {Hm : Hp} {σ : L2.St} {ρ : Rho} (h : Sd K Hm σ ρ) (i : Nat) (x : Option V) : Sd K Hm (σ.set i x) (ρ.set i none) := fun j e hj => by
  rcases set_get hj with ⟨rfl, e1, hi⟩ | ⟨hne, h1⟩
  · cases e1
  · obtain ⟨w, h2, h3⟩ := h j e h1
    exact ⟨w, by rw [List.getElem?_set_ne (Ne.symm hne)]; exact h2, h3⟩
theorem Sd.less {K : PySem.W.Frag} {Hm : Hp} {σ : L2.St} {ρ ρ' : Rho} (h : Sd K Hm σ ρ) (hw : ∀ (i : Nat) (d : D), ρ'[i]? = some (some d) → ρ[i]? = some (some d)) : Sd K Hm σ ρ' := fun i d hi => h i d (hw i d hi)
def wipeR (ρ : Rho) : List Nat → Rho
  | [] => ρ
  | v :: vs => (wipeR ρ vs).set v none
theorem Sd.wipe {K : PySem.W.Frag} {Hm : Hp} {σ : L2.St} {ρ : Rho} (h : Sd K Hm σ ρ) : ∀ vs : List Nat, Sd K Hm (wipe σ vs) (wipeR ρ vs)
  | [] => h
  | v :: vs => (Sd.wipe h vs).drop v none
theorem wipeR_length (ρ : Rho) : ∀ vs : List Nat, (wipeR ρ vs).length = ρ.length
  | [] => rfl
  | v :: vs => by unfold wipeR; rw [List.length_set, wipeR_length ρ vs]

/-! ### what an expression gives -/
section
variable (K : PySem.W.Frag)
def ED (te : TE) (ρ : Rho) (d : D) : Prop := ∀ σ H Hm, Ex Hm H → ρ.length ≤ σ.length → Sd K Hm σ ρ → ∀ Q : VK, (∀ v H2 Hm2, Gr H Hm H2 Hm2 → Dp K Hm2 v d → Q v H2) → te σ H Q
def EDs (ta : TA) (ρ : Rho) (ds : List D) : Prop := ∀ σ H Hm, Ex Hm H → ρ.length ≤ σ.length → Sd K Hm σ ρ → ∀ Q : List V → Hp → Prop, (∀ vs H2 Hm2, Gr H Hm H2 Hm2 → DpAll K Hm2 vs ds → Q vs H2) → ta σ H Q
def ET (tt : TT) (ρ : Rho) (b : Bool) : Prop := ∀ σ H Hm, Ex Hm H → ρ.length ≤ σ.length → Sd K Hm σ ρ → ∀ Q : Bool → Hp → Prop, (∀ H2 Hm2, Gr H Hm H2 Hm2 → Q b H2) → tt σ H Q
def EO (to : TO) (ρ : Rho) (o : Option Int) : Prop := ∀ σ H Hm, Ex Hm H → ρ.length ≤ σ.length → Sd K Hm σ ρ → ∀ Q : Option Int → Hp → Prop, (∀ H2 Hm2, Gr H Hm H2 Hm2 → Q o H2) → to σ H Q
/-- a new list of one's own -/
def EL (te : TE) (ρ : Rho) (ds : List D) : Prop := ∀ σ H Hm, Ex Hm H → ρ.length ≤ σ.length → Sd K Hm σ ρ → ∀ Q : VK,
  (∀ p vs H2 Hm2, Gr H Hm H2 Hm2 → H p = none → Hm2 p = none → H2 p = some (.lst vs) → DpAll K Hm2 vs ds → Q (.ref p) H2) → te σ H Q
def RD (r : R2) (a b c : D) : Prop := ∀ H Hm x y, Ex Hm H → Dp K Hm x a → Dp K Hm y b → ∀ Q : VK, (∀ v H2 Hm2, Gr H Hm H2 Hm2 → Dp K Hm2 v c → Q v H2) → r x y H Q
def UD (r : V → Hp → VK → Prop) (a c : D) : Prop := ∀ H Hm x, Ex Hm H → Dp K Hm x a → ∀ Q : VK, (∀ v H2 Hm2, Gr H Hm H2 Hm2 → Dp K Hm2 v c → Q v H2) → r x H Q
def CD (r : List V → Hp → VK → Prop) (ds : List D) (c : D) : Prop := ∀ H Hm xs, Ex Hm H → DpAll K Hm xs ds → ∀ Q : VK, (∀ v H2 Hm2, Gr H Hm H2 Hm2 → Dp K Hm2 v c → Q v H2) → r xs H Q
def CL (r : List V → Hp → VK → Prop) (ds : List D) (cs : List D) : Prop := ∀ H Hm xs, Ex Hm H → DpAll K Hm xs ds → ∀ Q : VK,
  (∀ p vs H2 Hm2, Gr H Hm H2 Hm2 → H p = none → Hm2 p = none → H2 p = some (.lst vs) → DpAll K Hm2 vs cs → Q (.ref p) H2) → r xs H Q
def MD (r : V → List V → Hp → VK → Prop) (a : D) (ds : List D) (c : D) : Prop := ∀ H Hm x xs, Ex Hm H → Dp K Hm x a → DpAll K Hm xs ds → ∀ Q : VK, (∀ v H2 Hm2, Gr H Hm H2 Hm2 → Dp K Hm2 v c → Q v H2) → r x xs H Q
end

section
variable {K : PySem.W.Frag} {ρ : Rho} {ta tb te tx : TE} {t u : TT} {a b c d : D} {ds es cs : List D} {r : R2}
theorem ed_is (h : ED K te ρ a) (e : a = b) : ED K te ρ b := e ▸ h
theorem et_is' {x y : Bool} (h : ET K t ρ x) (e : x = y) : ET K t ρ y := e ▸ h
theorem ed_var {i : Nat} (h : ρ[i]? = some (some d)) : ED K (tVar i) ρ d := fun σ H Hm s _ hs Q q =>
  let ⟨v, h1, h2⟩ := hs i d h
  ⟨v, h1, q v H Hm (Gr.refl s) h2⟩
theorem ed_int {i : Int} : ED K (tC (.int i)) ρ (.int i) := fun _ H Hm s _ _ _ q => q _ H Hm (Gr.refl s) (.int i)
theorem ed_bl {x : Bool} : ED K (tC (.bl x)) ρ (.bool x) := fun _ H Hm s _ _ _ q => q _ H Hm (Gr.refl s) (.bl x)
theorem ed_str {x : Str} : ED K (tC (.str x)) ρ (.str x) := fun _ H Hm s _ _ _ q => q _ H Hm (Gr.refl s) (.str x)
theorem ed_non : ED K (tC .non) ρ .none := fun _ H Hm s _ _ _ q => q _ H Hm (Gr.refl s) .non
theorem ed_op (ha : ED K ta ρ a) (hb : ED K tb ρ b) (hr : RD K r a b c) : ED K (tOp r ta tb) ρ c := fun σ H Hm s l hs Q q =>
  ha σ H Hm s l hs _ fun x H1 Hm1 g1 h1 => hb σ H1 Hm1 g1.sub l (hs.mono g1.em) _ fun y H2 Hm2 g2 h2 =>
    hr H2 Hm2 x y g2.sub (h1.mono g2.em) h2 Q fun v H3 Hm3 g3 h3 => q v H3 Hm3 ((g1.trans g2).trans g3) h3
theorem ed_un {r : V → Hp → VK → Prop} (ha : ED K ta ρ a) (hr : UD K r a c) : ED K (tUn r ta) ρ c := fun σ H Hm s l hs Q q =>
  ha σ H Hm s l hs _ fun x H1 Hm1 g1 h1 => hr H1 Hm1 x g1.sub h1 Q fun v H3 Hm3 g3 h3 => q v H3 Hm3 (g1.trans g3) h3
theorem eds_nil : EDs K tNil ρ [] := fun _ H Hm s _ _ _ q => q [] H Hm (Gr.refl s) .nil
theorem eds_cons {tr : TA} (h : ED K ta ρ d) (hr : EDs K tr ρ ds) : EDs K (tCons ta tr) ρ (d :: ds) := fun σ H Hm s l hs Q q =>
  h σ H Hm s l hs _ fun x H1 Hm1 g1 h1 => hr σ H1 Hm1 g1.sub l (hs.mono g1.em) _ fun xs H2 Hm2 g2 h2 => q _ H2 Hm2 (g1.trans g2) (.cons (h1.mono g2.em) h2)
theorem ed_tup {ta : TA} (h : EDs K ta ρ ds) (hl : ds.length ≤ 1000 := by decide) : ED K (tTup ta) ρ (.tuple ds) := fun σ H Hm s l hs Q q =>
  h σ H Hm s l hs _ fun vs H1 Hm1 g1 h1 => ⟨Nat.le_of_lt (small1000 (by rw [h1.len]; exact hl)), fun p hp =>
    q _ _ _ (g1.trans (Gr.new g1.sub hp)) (.tup (.inl (.inl upd_same)) (h1.mono (Ex.new (fresh_back g1.sub hp))))⟩
theorem el_lst {ta : TA} (h : EDs K ta ρ ds) (hl : ds.length ≤ 1000 := by decide) : EL K (tLst ta) ρ ds := fun σ H Hm s l hs Q q =>
  h σ H Hm s l hs _ fun vs H1 Hm1 g1 h1 => ⟨Nat.le_of_lt (small1000 (by rw [h1.len]; exact hl)), fun p hp =>
    q p vs _ Hm1 (g1.trans (Gr.priv g1.sub hp)) (fresh_back g1.ex hp) (fresh_back g1.sub hp) upd_same h1⟩
/-- a list that is one's own may be shown -/
theorem Gr.show {H Hm H2 Hm2 : Hp} {p : Addr} {vs : List V} (g : Gr H Hm H2 Hm2) (hp : H p = none) (hm : Hm2 p = none) (h2 : H2 p = some (.lst vs)) : Gr H Hm H2 (upd Hm2 p (.lst vs)) := by
  refine ⟨g.ex, g.em.trans (Ex.new hm), fun a o h => ?_, fun a o h n => ?_⟩
  · by_cases e : a = p
    · subst e; rw [upd_same] at h; cases h; exact h2
    · rw [upd_ne e] at h; exact g.sub a o h
  · rw [upd_ne (ne_of_none h hp)]; exact g.own a o h n
theorem ed_el (h : EL K te ρ ds) : ED K te ρ (.list ds) := fun σ H Hm s l hs Q q =>
  h σ H Hm s l hs _ fun p vs H2 Hm2 g hp hm h2 hd => q _ H2 _ (g.show hp hm h2) (.lst (.inl (.inl upd_same)) (hd.mono (Ex.new hm)))
theorem el_is (h : EL K te ρ ds) (e : ds = es) : EL K te ρ es := e ▸ h
theorem ed_cb {r : List V → Hp → VK → Prop} {ta : TA} (h : EDs K ta ρ ds) (hr : CD K r ds c) : ED K (tCB r ta) ρ c := fun σ H Hm s l hs Q q =>
  h σ H Hm s l hs _ fun xs H1 Hm1 g1 h1 => hr H1 Hm1 xs g1.sub h1 Q fun v H2 Hm2 g2 h2 => q v H2 Hm2 (g1.trans g2) h2
theorem el_cb {r : List V → Hp → VK → Prop} {ta : TA} (h : EDs K ta ρ ds) (hr : CL K r ds cs) : EL K (tCB r ta) ρ cs := fun σ H Hm s l hs Q q =>
  h σ H Hm s l hs _ fun xs H1 Hm1 g1 h1 => hr H1 Hm1 xs g1.sub h1 Q fun p vs H2 Hm2 g2 hp hm h2 hd => q p vs H2 Hm2 (g1.trans g2) (fresh_back g1.ex hp) hm h2 hd
/-- a def's promise by data -/
def SpR (K : PySem.W.Frag) (R : List D → D → Prop) : Sp := fun vs H Q _ => ∃ ds r Hm, Ex Hm H ∧ DpAll K Hm vs ds ∧ R ds r ∧ ∀ v H2 Hm2, Gr H Hm H2 Hm2 → Dp K Hm2 v r → Q v H2
theorem ed_call {R : List D → D → Prop} {E : XK} {ta : TA} (h : EDs K ta ρ ds) (hr : R ds d) : ED K (tCall (SpR K R) [] E ta) ρ d := fun σ H Hm s l hs Q q =>
  h σ H Hm s l hs _ fun xs H1 Hm1 g1 h1 => by
    show SpR K R (xs ++ []) H1 Q E
    rw [List.append_nil]
    exact ⟨ds, d, Hm1, g1.sub, h1, hr, fun v H2 Hm2 g2 h2 => q v H2 Hm2 (g1.trans g2) h2⟩
theorem et_test {x : Bool} (h : ED K te ρ (.bool x)) : ET K (tTest te) ρ x := fun σ H Hm s l hs Q q =>
  h σ H Hm s l hs _ fun v H2 Hm2 g h2 => ⟨x, dp_bool h2, q H2 Hm2 g⟩
theorem et_B {x : Bool} (h : ED K te ρ (.bool x)) : ET K (tB te) ρ x := fun σ H Hm s l hs Q q =>
  h σ H Hm s l hs _ fun v H2 Hm2 g h2 => ⟨x, dp_bool h2, q H2 Hm2 g⟩
theorem et_and {x y : Bool} (h1 : ET K t ρ x) (h2 : x = true → ET K u ρ y) : ET K (tAnd t u) ρ (x && y) := fun σ H Hm s l hs Q q => h1 σ H Hm s l hs _ fun H2 Hm2 g => by
  cases x with
  | true => exact h2 rfl σ H2 Hm2 g.sub l (hs.mono g.em) Q fun H3 Hm3 g3 => q H3 Hm3 (g.trans g3)
  | false => exact q H2 Hm2 g
theorem et_or {x y : Bool} (h1 : ET K t ρ x) (h2 : x = false → ET K u ρ y) : ET K (tOr t u) ρ (x || y) := fun σ H Hm s l hs Q q => h1 σ H Hm s l hs _ fun H2 Hm2 g => by
  cases x with
  | false => exact h2 rfl σ H2 Hm2 g.sub l (hs.mono g.em) Q fun H3 Hm3 g3 => q H3 Hm3 (g.trans g3)
  | true => exact q H2 Hm2 g
theorem et_not {x : Bool} (h1 : ET K t ρ x) : ET K (tNot t) ρ (!x) := fun σ H Hm s l hs Q q => h1 σ H Hm s l hs _ fun H2 Hm2 g => q H2 Hm2 g
theorem ed_andV {x y : Bool} (h1 : ED K ta ρ (.bool x)) (h2 : x = true → ED K tb ρ (.bool y)) : ED K (tAndV ta tb) ρ (.bool (x && y)) := fun σ H Hm s l hs Q q => h1 σ H Hm s l hs _ fun v H2 Hm2 g hv => ⟨x, dp_bool hv, by
  cases x with
  | true => exact h2 rfl σ H2 Hm2 g.sub l (hs.mono g.em) Q fun w H3 Hm3 g3 hw => q w H3 Hm3 (g.trans g3) hw
  | false => exact q _ H2 Hm2 g (.bl false)⟩
theorem ed_orV {x y : Bool} (h1 : ED K ta ρ (.bool x)) (h2 : x = false → ED K tb ρ (.bool y)) : ED K (tOrV ta tb) ρ (.bool (x || y)) := fun σ H Hm s l hs Q q => h1 σ H Hm s l hs _ fun v H2 Hm2 g hv => ⟨x, dp_bool hv, by
  cases x with
  | false => exact h2 rfl σ H2 Hm2 g.sub l (hs.mono g.em) Q fun w H3 Hm3 g3 hw => q w H3 Hm3 (g.trans g3) hw
  | true => exact q _ H2 Hm2 g (.bl true)⟩
theorem ed_notV {x : Bool} (h1 : ED K ta ρ (.bool x)) : ED K (tNotV ta) ρ (.bool (!x)) := fun σ H Hm s l hs Q q => h1 σ H Hm s l hs _ fun v H2 Hm2 g hv => ⟨x, dp_bool hv, q _ H2 Hm2 g (.bl _)⟩
theorem ed_if {x : Bool} (h : ET K t ρ x) (h1 : x = true → ED K ta ρ d) (h2 : x = false → ED K tb ρ d) : ED K (tIf t ta tb) ρ d := fun σ H Hm s l hs Q q => h σ H Hm s l hs _ fun H2 Hm2 g => by
  cases x with
  | true => exact h1 rfl σ H2 Hm2 g.sub l (hs.mono g.em) Q fun w H3 Hm3 g3 hw => q w H3 Hm3 (g.trans g3) hw
  | false => exact h2 rfl σ H2 Hm2 g.sub l (hs.mono g.em) Q fun w H3 Hm3 g3 hw => q w H3 Hm3 (g.trans g3) hw
theorem ed_chain {r r' : R2} {tc : TE} {x y : Bool} (ha : ED K ta ρ a) (hb : ED K tb ρ b) (h1 : RD K r a b (.bool x)) (h2 : x = true → ED K tc ρ c ∧ RD K r' b c (.bool y)) : ED K (tChain r r' ta tb tc) ρ (.bool (x && y)) := fun σ H Hm s l hs Q q =>
  ha σ H Hm s l hs _ fun vx H1 Hm1 g1 d1 => hb σ H1 Hm1 g1.sub l (hs.mono g1.em) _ fun vy H2 Hm2 g2 d2 =>
    h1 H2 Hm2 vx vy g2.sub (d1.mono g2.em) d2 _ fun vz H3 Hm3 g3 d3 => ⟨x, dp_bool d3, by
      have g := (g1.trans g2).trans g3
      cases x with
      | true =>
        obtain ⟨hc, hr⟩ := h2 rfl
        show tc σ H3 fun w' H4 => r' vy w' H4 Q
        exact hc σ H3 Hm3 g.sub l (hs.mono g.em) _ fun vw H4 Hm4 g4 d4 => hr H4 Hm4 vy vw g4.sub (d2.mono (g3.em.trans g4.em)) d4 Q fun v H5 Hm5 g5 d5 => q v H5 Hm5 ((g.trans g4).trans g5) d5
      | false =>
        show Q (.bl false) H3
        exact q _ H3 Hm3 g (.bl false)⟩
theorem eo_none : EO K tNoPart ρ none := fun _ H Hm s _ _ _ q => q H Hm (Gr.refl s)
theorem eo_some {i : Int} (h : ED K te ρ (.int i)) : EO K (tPart te) ρ (some i) := fun σ H Hm s l hs Q q => h σ H Hm s l hs _ fun v H2 Hm2 g hv => ⟨i, dp_int hv, q H2 Hm2 g⟩
end

/-! ### operators -/
section
variable {K : PySem.W.Frag}
theorem rd_I0 {g : Int → Int → V} {g' : Int → Int → D} {i j : Int} (hg : ∀ (H : Hp), Dp K H (g i j) (g' i j)) : RD K (rI0 g) (.int i) (.int j) (g' i j) := fun H Hm x y s hx hy Q q => ⟨i, j, dp_int hx, dp_int hy, q _ H Hm (Gr.refl s) (hg _)⟩
theorem rd_add {i j : Int} : RD K (rI0 fun i j => .int (i + j)) (.int i) (.int j) (.int (i + j)) := rd_I0 (g' := fun i j => .int (i + j)) fun _ => .int _
theorem rd_sub {i j : Int} : RD K (rI0 fun i j => .int (i - j)) (.int i) (.int j) (.int (i - j)) := rd_I0 (g' := fun i j => .int (i - j)) fun _ => .int _
theorem rd_I {C : Int → Int → Prop} {g : Int → Int → V} {g' : Int → Int → D} {i j : Int} (hc : C i j) (hg : ∀ (H : Hp), Dp K H (g i j) (g' i j)) : RD K (rI C g) (.int i) (.int j) (g' i j) := fun H Hm x y s hx hy Q q => ⟨i, j, dp_int hx, dp_int hy, hc, q _ H Hm (Gr.refl s) (hg _)⟩
theorem rd_mul {i j : Int} (h : CMul i j) : RD K (rI CMul fun i j => .int (i * j)) (.int i) (.int j) (.int (i * j)) := rd_I (g' := fun i j => .int (i * j)) h fun _ => .int _
theorem rd_mod {i j : Int} (h : 0 < j := by decide) : RD K (rI (fun _ j => 0 < j) fun i j => .int (i % j)) (.int i) (.int j) (.int (i % j)) := rd_I (g' := fun i j => .int (i % j)) h fun _ => .int _
theorem rd_div {i j : Int} (h : CDiv i j) : RD K (rI CDiv fun i j => .int (i / j)) (.int i) (.int j) (.int (i / j)) := rd_I (g' := fun i j => .int (i / j)) h fun _ => .int _
theorem rd_lt {i j : Int} : RD K (rI0 fun i j => .bl (decide (i < j))) (.int i) (.int j) (.bool (decide (i < j))) := rd_I0 (g' := fun i j => .bool (decide (i < j))) fun _ => .bl _
theorem rd_le {i j : Int} : RD K (rI0 fun i j => .bl (decide (i ≤ j))) (.int i) (.int j) (.bool (decide (i ≤ j))) := rd_I0 (g' := fun i j => .bool (decide (i ≤ j))) fun _ => .bl _
theorem rd_gt {i j : Int} : RD K (rI0 fun i j => .bl (decide (i > j))) (.int i) (.int j) (.bool (decide (i > j))) := rd_I0 (g' := fun i j => .bool (decide (i > j))) fun _ => .bl _
theorem rd_ge {i j : Int} : RD K (rI0 fun i j => .bl (decide (i ≥ j))) (.int i) (.int j) (.bool (decide (i ≥ j))) := rd_I0 (g' := fun i j => .bool (decide (i ≥ j))) fun _ => .bl _
theorem rd_eqD {a b : D} (ha : SeqAt.shaped a = true) (hb : SeqAt.shaped b = true) : RD K (rEqD K) a b (.bool (PyData.eqv a b)) := fun H Hm x y s hx hy Q q => ⟨a, b, hx.mono s, hy.mono s, ha, hb, q _ H Hm (Gr.refl s) (.bl _)⟩
theorem rd_neD {a b : D} (ha : SeqAt.shaped a = true) (hb : SeqAt.shaped b = true) : RD K (rNeD K) a b (.bool (!PyData.eqv a b)) := fun H Hm x y s hx hy Q q => ⟨a, b, hx.mono s, hy.mono s, ha, hb, q _ H Hm (Gr.refl s) (.bl _)⟩
theorem ud_neg {i : Int} : UD K (rU fun i => .int (-i)) (.int i) (.int (-i)) := fun H Hm x s hx Q q => ⟨i, dp_int hx, q _ H Hm (Gr.refl s) (.int _)⟩
/-- xs[i], t[i] -/
theorem rd_ixT {ds : List D} {i : Int} {d : D} (h : atI ds i = some d) : RD K (rIxT K) (.tuple ds) (.int i) d := fun H Hm x y s hx hy Q q => by
  obtain ⟨a, xs, rfl, hs, ha⟩ := dp_tup hx
  have hl := ha.len
  unfold atI at h
  obtain ⟨j, h1, h2⟩ := Option.bind_eq_some_iff.mp h
  obtain ⟨v, h3, h4⟩ := ha.get h2
  exact ⟨a, xs, i, v, rfl, dp_int hy, ex_t s hs, by unfold atI; rw [hl, h1]; exact h3, q v H Hm (Gr.refl s) h4⟩
theorem rd_ixL {ds : List D} {i : Int} {d : D} (h : atI ds i = some d) : RD K (rIxL K) (.list ds) (.int i) d := fun H Hm x y s hx hy Q q => by
  obtain ⟨a, xs, rfl, hs, ha⟩ := dp_lst hx
  have hl := ha.len
  unfold atI at h
  obtain ⟨j, h1, h2⟩ := Option.bind_eq_some_iff.mp h
  obtain ⟨v, h3, h4⟩ := ha.get h2
  exact ⟨a, xs, i, v, rfl, dp_int hy, ex_l s hs, by unfold atI; rw [hl, h1]; exact h3, q v H Hm (Gr.refl s) h4⟩
/-- t + u -/
theorem rd_catT {ds es : List D} (hl : ds.length + es.length ≤ 100000) : RD K (rCatA K) (.tuple ds) (.tuple es) (.tuple (ds ++ es)) := fun H Hm x y s hx hy Q q => by
  obtain ⟨a, xs, rfl, hs, ha⟩ := dp_tup hx
  obtain ⟨b, ys, rfl, ht, hb⟩ := dp_tup hy
  have l1 := ha.len
  have l2 := hb.len
  refine ⟨a, b, xs, ys, rfl, rfl, ex_t s hs, ex_t s ht, sz_of (by omega), fun e => ?_, fun e e2 => ?_, fun _ _ p hp => ?_⟩
  · have : ds = [] := by
      cases ds with
      | nil => rfl
      | cons _ _ => rw [e] at l1; simp at l1
    subst this
    exact q _ H Hm (Gr.refl s) (.tup ht hb)
  · have : es = [] := by
      cases es with
      | nil => rfl
      | cons _ _ => rw [e2] at l2; simp at l2
    subst this
    rw [List.append_nil] at q
    exact q _ H Hm (Gr.refl s) (.tup hs ha)
  · have em : Ex Hm (upd Hm p (.tup (xs ++ ys))) := Ex.new (fresh_back s hp)
    exact q _ _ _ (Gr.new s hp) (.tup (.inl (.inl upd_same)) ((ha.mono em).app (hb.mono em)))
/-- len -/
theorem cd_lenT {ds : List D} : CD K (fun xs H Q => ∃ a ys, xs = [.ref a] ∧ (SqL K H a ys ∨ SqT K H a ys) ∧ Q (.int ys.length) H) [.tuple ds] (.int ds.length) := fun H Hm xs s hx Q q => by
  cases hx with
  | cons h t =>
    cases t
    obtain ⟨a, ys, rfl, hs, ha⟩ := dp_tup h
    exact ⟨a, ys, rfl, .inr (ex_t s hs), by rw [ha.len]; exact q _ H Hm (Gr.refl s) (.int _)⟩
end
end LM

set_option Elab.async false
set_option linter.all false
set_option maxRecDepth 100000
/-! Lm2: comprehensions, calls of built-ins, statements, by data. -/
namespace LM
open PySem L2 Evl

/-! ### comprehensions -/
section
variable {K : PySem.W.Frag} {ρ : Rho} {te : TE} {t : TT} {j : Nat}
/-- at turn i of a comprehension whose list stands at Dl -/
def Cp (K : PySem.W.Frag) (H1 Hm1 : Hp) (Dl : Addr) (es : List D) (H' : Hp) : Prop := ∃ Hm' acc, Gr H1 Hm1 H' Hm' ∧ Hm' Dl = none ∧ H' Dl = some (.lst acc) ∧ DpAll K Hm' acc es
theorem cp_turn {H1 Hm1 H' : Hp} {Dl : Addr} {σ : L2.St} {x : V} {d d' : D} {es : List D} {b : Bool} (hD : H1 Dl = none) (s1 : Ex Hm1 H1) (l : ρ.length ≤ σ.length) (hs : Sd K Hm1 σ ρ) (hx : Dp K Hm1 x d) (p : Cp K H1 Hm1 Dl es H') (hz : es.length < 100000)
    (ht : ET K t ((wipeR ρ [j]).set j (some d)) b) (he : b = true → ED K te ((wipeR ρ [j]).set j (some d)) d') :
    t ((wipe σ [j]).set j (some x)) H' fun c H3 => if c = true then te ((wipe σ [j]).set j (some x)) H3 fun y H4 => ∃ acc, H4 Dl = some (.lst acc) ∧ acc.length < sizeLine ∧ Cp K H1 Hm1 Dl (es ++ (if b = true then [d'] else [])) (upd H4 Dl (.lst (acc ++ [y])))
      else Cp K H1 Hm1 Dl (es ++ (if b = true then [d'] else [])) H3 := by
  obtain ⟨Hm', acc, g, n1, n2, n3⟩ := p
  have l2 : ((wipeR ρ [j]).set j (some d)).length ≤ ((wipe σ [j]).set j (some x)).length := by rw [List.length_set, List.length_set, wipeR_length, wipe_length]; exact l
  have l3 : (wipeR ρ [j]).length ≤ (wipe σ [j]).length := by rw [wipeR_length, wipe_length]; exact l
  have S : Sd K Hm' ((wipe σ [j]).set j (some x)) ((wipeR ρ [j]).set j (some d)) := ((hs.mono g.em).wipe [j]).set l3 j (hx.mono g.em)
  refine ht _ H' Hm' g.sub l2 S _ fun H3 Hm3 g3 => ?_
  cases b with
  | true =>
    simp only [if_true]
    refine he rfl _ H3 Hm3 g3.sub l2 (S.mono g3.em) _ fun y H4 Hm4 g4 hy => ?_
    have g5 := g3.trans g4
    have e4 : H4 Dl = some (.lst acc) := g5.ex _ _ n2
    have m4 : Hm4 Dl = none := g5.own _ _ n2 n1
    refine ⟨acc, e4, sz_lt (by rw [n3.len]; exact hz), Hm4, acc ++ [y], ⟨?_, g.em.trans g5.em, ?_, ?_⟩, m4, upd_same, (n3.mono g5.em).snoc hy⟩
    · exact Ex.mut (g.ex.trans g5.ex) hD
    · intro a o h
      have : a ≠ Dl := fun e => by subst e; rw [m4] at h; cases h
      rw [upd_ne this]; exact g4.sub a o h
    · exact (g.trans g5).own
  | false =>
    simp only [Bool.false_eq_true, if_false, List.append_nil]
    exact ⟨Hm3, acc, g.trans g3, g3.own _ _ n2 n1, g3.ex _ _ n2, n3.mono g3.em⟩
def filtmap (p : D → Bool) (f : D → D) : List D → List D
  | [] => []
  | d :: ds => (if p d = true then [f d] else []) ++ filtmap p f ds
theorem filtmap_eq (p : D → Bool) (f : D → D) : ∀ ds, filtmap p f ds = (ds.filter p).map f
  | [] => rfl
  | d :: ds => by
    show (if p d = true then [f d] else []) ++ filtmap p f ds = _
    rw [filtmap_eq p f ds]
    cases h : p d <;> simp [h]
theorem filtmap_app (p : D → Bool) (f : D → D) : ∀ ds es, filtmap p f (ds ++ es) = filtmap p f ds ++ filtmap p f es
  | [], es => rfl
  | d :: ds, es => by
    show (if p d = true then [f d] else []) ++ filtmap p f (ds ++ es) = ((if p d = true then [f d] else []) ++ filtmap p f ds) ++ filtmap p f es
    rw [filtmap_app p f ds es, List.append_assoc]
theorem filtmap_take (p : D → Bool) (f : D → D) {ds : List D} {i : Nat} {d : D} (h : ds[i]? = some d) : filtmap p f (ds.take (i + 1)) = filtmap p f (ds.take i) ++ (if p d = true then [f d] else []) := by
  rw [List.take_add_one, h, filtmap_app]
  show _ ++ ((if p d = true then [f d] else []) ++ []) = _
  rw [List.append_nil]
theorem filtmap_len (p : D → Bool) (f : D → D) : ∀ ds, (filtmap p f ds).length ≤ ds.length
  | [] => Nat.le_refl _
  | d :: ds => by
    have := filtmap_len p f ds
    show ((if p d = true then [f d] else []) ++ filtmap p f ds).length ≤ ds.length + 1
    rw [List.length_append]
    cases p d <;> simp <;> omega
theorem wipe_back {σ : L2.St} {j : Nat} {x : V} : wipe ((wipe σ [j]).set j (some x)) [j] = wipe σ [j] := by
  show (((σ.set j none).set j (some x)).set j none) = σ.set j none
  rw [List.set_set, List.set_set]
theorem el_lcT {tl : TE} {ds : List D} (p : D → Bool) (f : D → D) (hsrc : ED K tl ρ (.tuple ds)) (ht : ∀ d ∈ ds, ET K t ((wipeR ρ [j]).set j (some d)) (p d)) (he : ∀ d ∈ ds, p d = true → ED K te ((wipeR ρ [j]).set j (some d)) (f d)) (hz : ds.length ≤ 50000 := by first | assumption | decide | omega) :
    EL K (tLc (iTup K tl) (gName j) t te [j]) ρ ((ds.filter p).map f) := fun σ H Hm s l hs Q q => by
  refine hsrc σ H Hm s l hs _ fun v H1 Hm1 g1 h1 => ?_
  obtain ⟨a, xs, rfl, hx, ha⟩ := dp_tup h1
  refine ⟨a, rfl, ⟨xs, ex_t g1.sub hx⟩, fun Dl hD => ?_⟩
  have hl := ha.len
  refine lc_tup (xs := xs) (fun i H' => Cp K H1 Hm1 Dl (filtmap p f (ds.take i)) H') ?_ (fun i H' _ c => ?_) (fun i x H' hi c => ?_) (fun H' c => ?_)
  · exact ⟨Hm1, [], Gr.priv g1.sub hD, fresh_back g1.sub hD, upd_same, .nil⟩
  · obtain ⟨_, _, g, _⟩ := c
    exact ex_t g.sub (ex_t g.em hx)
  · obtain ⟨d, hd, hxd⟩ := ha.get' hi
    have hm : d ∈ ds := List.mem_of_getElem? hd
    refine ⟨wipe_back, ?_⟩
    have c' := cp_turn (t := t) (te := te) (j := j) (d' := f d) (b := p d) hD g1.sub l (hs.mono g1.em) hxd c (by have h1 := filtmap_len p f (ds.take i); rw [List.length_take] at h1; omega) (ht d hm) (he d hm)
    rw [← filtmap_take p f hd] at c'
    exact c'
  · rw [hl, List.take_length, filtmap_eq] at c
    obtain ⟨Hm', acc, g, n1, n2, n3⟩ := c
    exact q Dl acc H' Hm' (g1.trans g) (fresh_back g1.ex hD) n1 n2 n3
theorem el_lcL {tl : TE} {ds : List D} (p : D → Bool) (f : D → D) (hsrc : ED K tl ρ (.list ds)) (ht : ∀ d ∈ ds, ET K t ((wipeR ρ [j]).set j (some d)) (p d)) (he : ∀ d ∈ ds, p d = true → ED K te ((wipeR ρ [j]).set j (some d)) (f d)) (hz : ds.length ≤ 50000 := by first | assumption | decide | omega) :
    EL K (tLc (iList K tl) (gName j) t te [j]) ρ ((ds.filter p).map f) := fun σ H Hm s l hs Q q => by
  refine hsrc σ H Hm s l hs _ fun v H1 Hm1 g1 h1 => ?_
  obtain ⟨a, xs, rfl, hx, ha⟩ := dp_lst h1
  refine ⟨a, rfl, ⟨xs, ex_l g1.sub hx⟩, fun Dl hD => ?_⟩
  have hl := ha.len
  refine lc_list (xs := xs) (fun i H' => Cp K H1 Hm1 Dl (filtmap p f (ds.take i)) H') ?_ (fun i H' _ c => ?_) (fun i x H' hi c => ?_) (fun H' c => ?_)
  · exact ⟨Hm1, [], Gr.priv g1.sub hD, fresh_back g1.sub hD, upd_same, .nil⟩
  · obtain ⟨_, _, g, _⟩ := c
    exact ex_l g.sub (ex_l g.em hx)
  · obtain ⟨d, hd, hxd⟩ := ha.get' hi
    have hm : d ∈ ds := List.mem_of_getElem? hd
    refine ⟨wipe_back, ?_⟩
    have c' := cp_turn (t := t) (te := te) (j := j) (d' := f d) (b := p d) hD g1.sub l (hs.mono g1.em) hxd c (by have h1 := filtmap_len p f (ds.take i); rw [List.length_take] at h1; omega) (ht d hm) (he d hm)
    rw [← filtmap_take p f hd] at c'
    exact c'
  · rw [hl, List.take_length, filtmap_eq] at c
    obtain ⟨Hm', acc, g, n1, n2, n3⟩ := c
    exact q Dl acc H' Hm' (g1.trans g) (fresh_back g1.ex hD) n1 n2 n3
/-- the ints lo, lo + 1, .. -/
def rngD (lo : Int) (n : Nat) : List D := (List.range n).map fun (i : Nat) => PySem.PyData.int (lo + (i : Int))
theorem rngD_get {lo : Int} {n i : Nat} (h : i < n) : (rngD lo n)[i]? = some (.int (lo + (i : Int))) := by
  unfold rngD
  rw [List.getElem?_map, List.getElem?_range h]; rfl
theorem rngD_len (lo : Int) (n : Nat) : (rngD lo n).length = n := by unfold rngD; rw [List.length_map, List.length_range]
theorem lcR_core {lo : Int} {n : Nat} (p : D → Bool) (f : D → D) {σ : L2.St} {H1 Hm1 : Hp} (s1 : Ex Hm1 H1) (l : ρ.length ≤ σ.length) (hs : Sd K Hm1 σ ρ) {Q : VK} {Dl : Addr} (hD : H1 Dl = none) (hz : n ≤ 50000)
    (ht : ∀ d ∈ rngD lo n, ET K t ((wipeR ρ [j]).set j (some d)) (p d)) (he : ∀ d ∈ rngD lo n, p d = true → ED K te ((wipeR ρ [j]).set j (some d)) (f d))
    (q : ∀ acc H' Hm', Gr H1 Hm1 H' Hm' → Hm' Dl = none → H' Dl = some (.lst acc) → DpAll K Hm' acc (((rngD lo n).filter p).map f) → Q (.ref Dl) H') :
    ∃ W : Nat → Nat → Hp → Prop, (∃ m, W 0 m (upd H1 Dl (.lst []))) ∧ ∀ i m H, W i m H →
      ((Itr lo n).stop i H ∧ Q (.ref Dl) H) ∨ ((Itr lo n).go i H ∧ ∃ Nx : Hp → Prop, (∀ H', Nx H' → ∃ m', m' < m ∧ W (i + 1) m' H') ∧ ∀ x H', (Itr lo n).yld i H x H' → gName j x (wipe σ [j]) H' fun σ2 H2 => wipe σ2 [j] = wipe σ [j] ∧ t σ2 H2 fun b H3 =>
        if b = true then te σ2 H3 fun y H4 => ∃ acc, H4 Dl = some (.lst acc) ∧ acc.length < sizeLine ∧ Nx (upd H4 Dl (.lst (acc ++ [y]))) else Nx H3) := by
  refine lc_range (lo := lo) (n := n) (Qd := Q (.ref Dl)) (fun i H' => Cp K H1 Hm1 Dl (filtmap p f ((rngD lo n).take i)) H') ?_ (fun i H' hi c => ?_) (fun H' c => ?_)
  · exact ⟨Hm1, [], Gr.priv s1 hD, fresh_back s1 hD, upd_same, .nil⟩
  · have hd := rngD_get (lo := lo) hi
    have hm : PyData.int (lo + (i : Int)) ∈ rngD lo n := List.mem_of_getElem? hd
    refine ⟨wipe_back, ?_⟩
    have c' := cp_turn (t := t) (te := te) (j := j) (d' := f (.int (lo + (i : Int)))) (b := p (.int (lo + (i : Int)))) hD s1 l hs (.int _) c (by have h1 := filtmap_len p f ((rngD lo n).take i); have h2 := rngD_len lo n; rw [List.length_take] at h1; omega) (ht _ hm) (he _ hm)
    rw [← filtmap_take p f hd] at c'
    exact c'
  · have hl := rngD_len lo n
    rw [List.take_of_length_le (by omega), filtmap_eq] at c
    obtain ⟨Hm', acc, g, n1, n2, n3⟩ := c
    exact q acc H' Hm' g n1 n2 n3
theorem el_lcR1 {ta : TA} {n : Int} (p : D → Bool) (f : D → D) (hsrc : EDs K ta ρ [.int n]) (hn : 0 ≤ n ∧ n ≤ 50000) (ht : ∀ d ∈ rngD 0 n.toNat, ET K t ((wipeR ρ [j]).set j (some d)) (p d)) (he : ∀ d ∈ rngD 0 n.toNat, p d = true → ED K te ((wipeR ρ [j]).set j (some d)) (f d)) :
    EL K (tLc (iRng1 ta) (gName j) t te [j]) ρ (((rngD 0 n.toNat).filter p).map f) := fun σ H Hm s l hs Q q => by
  refine hsrc σ H Hm s l hs _ fun vs H1 Hm1 g1 h1 => ?_
  have ev : vs = [.int n] := dp_ints (ns := [n]) h1
  subst ev
  refine ⟨n, rfl, by omega, by omega, fun Dl hD => ?_⟩
  exact lcR_core p f g1.sub l (hs.mono g1.em) hD (by omega) ht he fun acc H' Hm' g n1 n2 n3 => q Dl acc H' Hm' (g1.trans g) (fresh_back g1.ex hD) n1 n2 n3
theorem el_lcR2 {ta : TA} {lo n : Int} (p : D → Bool) (f : D → D) (hsrc : EDs K ta ρ [.int lo, .int n]) (hn : -100000 ≤ lo ∧ lo ≤ 100000 ∧ -100000 ≤ n ∧ n ≤ 100000 ∧ n - lo ≤ 50000) (ht : ∀ d ∈ rngD lo (n - lo).toNat, ET K t ((wipeR ρ [j]).set j (some d)) (p d)) (he : ∀ d ∈ rngD lo (n - lo).toNat, p d = true → ED K te ((wipeR ρ [j]).set j (some d)) (f d)) :
    EL K (tLc (iRng2 ta) (gName j) t te [j]) ρ (((rngD lo (n - lo).toNat).filter p).map f) := fun σ H Hm s l hs Q q => by
  refine hsrc σ H Hm s l hs _ fun vs H1 Hm1 g1 h1 => ?_
  have ev : vs = [.int lo, .int n] := dp_ints (ns := [lo, n]) h1
  subst ev
  refine ⟨lo, n, rfl, by omega, fun Dl hD => ?_⟩
  exact lcR_core p f g1.sub l (hs.mono g1.em) hD (by omega) ht he fun acc H' Hm' g n1 n2 n3 => q Dl acc H' Hm' (g1.trans g) (fresh_back g1.ex hD) n1 n2 n3
theorem et_yes {ρ : Rho} : ET K tYes ρ true := fun _ H Hm s _ _ _ q => q H Hm (Gr.refl s)
theorem filt_all {α : Type} (l : List α) : l.filter (fun _ => true) = l := List.filter_eq_self.mpr fun _ _ => rfl
/-- without a test -/
theorem el_mapT {tl : TE} {ds : List D} (f : D → D) (hsrc : ED K tl ρ (.tuple ds)) (he : ∀ d ∈ ds, ED K te ((wipeR ρ [j]).set j (some d)) (f d)) (hz : ds.length ≤ 50000 := by first | assumption | decide | omega) :
    EL K (tLc (iTup K tl) (gName j) tYes te [j]) ρ (ds.map f) := el_is (el_lcT (fun _ => true) f hsrc (fun _ _ => et_yes) (fun d h _ => he d h) hz) (by rw [filt_all])
theorem el_mapL {tl : TE} {ds : List D} (f : D → D) (hsrc : ED K tl ρ (.list ds)) (he : ∀ d ∈ ds, ED K te ((wipeR ρ [j]).set j (some d)) (f d)) (hz : ds.length ≤ 50000 := by first | assumption | decide | omega) :
    EL K (tLc (iList K tl) (gName j) tYes te [j]) ρ (ds.map f) := el_is (el_lcL (fun _ => true) f hsrc (fun _ _ => et_yes) (fun d h _ => he d h) hz) (by rw [filt_all])
theorem el_mapR1 {ta : TA} {n : Int} (f : D → D) (hsrc : EDs K ta ρ [.int n]) (hn : 0 ≤ n ∧ n ≤ 50000) (he : ∀ d ∈ rngD 0 n.toNat, ED K te ((wipeR ρ [j]).set j (some d)) (f d)) :
    EL K (tLc (iRng1 ta) (gName j) tYes te [j]) ρ ((rngD 0 n.toNat).map f) := el_is (el_lcR1 (fun _ => true) f hsrc hn (fun _ _ => et_yes) (fun d h _ => he d h)) (by rw [filt_all])
end

/-! ### built-ins -/
section
variable {K : PySem.W.Frag}
theorem dps1 {H : Hp} {xs : List V} {d : D} (h : DpAll K H xs [d]) : ∃ v, xs = [v] ∧ Dp K H v d := by
  cases h with | cons h t => cases t; exact ⟨_, rfl, h⟩
theorem dps2 {H : Hp} {xs : List V} {d e : D} (h : DpAll K H xs [d, e]) : ∃ v w, xs = [v, w] ∧ Dp K H v d ∧ Dp K H w e := by
  cases h with | cons h t => cases t with | cons h2 t => cases t; exact ⟨_, _, rfl, h, h2⟩
abbrev rLen (K : PySem.W.Frag) : List V → Hp → VK → Prop := fun xs H Q => ∃ p ys, xs = [.ref p] ∧ (SqL K H p ys ∨ SqT K H p ys) ∧ Q (.int ys.length) H
theorem cd_lenL {ds : List D} : CD K (rLen K) [.list ds] (.int ds.length) := fun H Hm xs s hx Q q => by
  obtain ⟨v, rfl, h⟩ := dps1 hx
  obtain ⟨a, ys, rfl, hs, ha⟩ := dp_lst h
  exact ⟨a, ys, rfl, .inl (ex_l s hs), by rw [ha.len]; exact q _ H Hm (Gr.refl s) (.int _)⟩
theorem cd_any {bs : List Bool} {ds : List D} (e : ds = bs.map PyData.bool) : CD K (rAny K) [.list ds] (.bool (bs.any id)) := fun H Hm xs s hx Q q => by
  subst e
  obtain ⟨v, rfl, h⟩ := dps1 hx
  obtain ⟨a, ys, rfl, hs, ha⟩ := dp_lst h
  have := dp_bools ha
  subst this
  exact ⟨a, bs, rfl, ex_l s hs, q _ H Hm (Gr.refl s) (.bl _)⟩
theorem cd_all {bs : List Bool} {ds : List D} (e : ds = bs.map PyData.bool) : CD K (rAll K) [.list ds] (.bool (bs.all id)) := fun H Hm xs s hx Q q => by
  subst e
  obtain ⟨v, rfl, h⟩ := dps1 hx
  obtain ⟨a, ys, rfl, hs, ha⟩ := dp_lst h
  have := dp_bools ha
  subst this
  exact ⟨a, bs, rfl, ex_l s hs, q _ H Hm (Gr.refl s) (.bl _)⟩
theorem cd_sum {ns : List Int} {ds : List D} (e : ds = ns.map PyData.int) : CD K (rSum K) [.list ds] (.int ns.sum) := fun H Hm xs s hx Q q => by
  subst e
  obtain ⟨v, rfl, h⟩ := dps1 hx
  obtain ⟨a, ys, rfl, hs, ha⟩ := dp_lst h
  have := dp_ints ha
  subst this
  exact ⟨a, ns, rfl, ex_l s hs, q _ H Hm (Gr.refl s) (.int _)⟩
theorem cd_max {ns : List Int} {ds : List D} {m : Int} (e : ds = ns.map PyData.int) (h1 : m ∈ ns) (h2 : ∀ y ∈ ns, y ≤ m) : CD K (rMax K) [.list ds] (.int m) := fun H Hm xs s hx Q q => by
  subst e
  obtain ⟨v, rfl, h⟩ := dps1 hx
  obtain ⟨a, ys, rfl, hs, ha⟩ := dp_lst h
  have := dp_ints ha
  subst this
  refine ⟨a, ns, rfl, ex_l s hs, List.length_pos_of_mem h1, fun k hk hle => ?_⟩
  have e : k = m := Int.le_antisymm (h2 k hk) (hle m h1)
  subst e
  exact q _ H Hm (Gr.refl s) (.int _)
theorem cd_min {ns : List Int} {ds : List D} {m : Int} (e : ds = ns.map PyData.int) (h1 : m ∈ ns) (h2 : ∀ y ∈ ns, m ≤ y) : CD K (rMin K) [.list ds] (.int m) := fun H Hm xs s hx Q q => by
  subst e
  obtain ⟨v, rfl, h⟩ := dps1 hx
  obtain ⟨a, ys, rfl, hs, ha⟩ := dp_lst h
  have := dp_ints ha
  subst this
  refine ⟨a, ns, rfl, ex_l s hs, List.length_pos_of_mem h1, fun k hk hle => ?_⟩
  have e : k = m := Int.le_antisymm (hle m h1) (h2 k hk)
  subst e
  exact q _ H Hm (Gr.refl s) (.int _)
abbrev rMax2' : List V → Hp → VK → Prop := fun xs H Q => ∃ i j, xs = [.int i, .int j] ∧ Q (.int (if j > i then j else i)) H
abbrev rMin2' : List V → Hp → VK → Prop := fun xs H Q => ∃ i j, xs = [.int i, .int j] ∧ Q (.int (if j < i then j else i)) H
theorem cd_max2 {i j : Int} : CD K rMax2' [.int i, .int j] (.int (max i j)) := fun H Hm xs s hx Q q => by
  have := dp_ints (ns := [i, j]) hx
  subst this
  refine ⟨i, j, rfl, ?_⟩
  have e : (if j > i then j else i) = max i j := by split <;> omega
  rw [e]
  exact q _ H Hm (Gr.refl s) (.int _)
theorem cd_min2 {i j : Int} : CD K rMin2' [.int i, .int j] (.int (min i j)) := fun H Hm xs s hx Q q => by
  have := dp_ints (ns := [i, j]) hx
  subst this
  refine ⟨i, j, rfl, ?_⟩
  have e : (if j < i then j else i) = min i j := by split <;> omega
  rw [e]
  exact q _ H Hm (Gr.refl s) (.int _)
abbrev rAbs : List V → Hp → VK → Prop := fun xs H Q => ∃ i, xs = [.int i] ∧ Q (.int (if i < 0 then -i else i)) H
theorem cd_abs {i : Int} : CD K rAbs [.int i] (.int (if i < 0 then -i else i)) := fun H Hm xs s hx Q q => by
  have := dp_ints (ns := [i]) hx
  subst this
  exact ⟨i, rfl, q _ H Hm (Gr.refl s) (.int _)⟩
abbrev rInt1 : List V → Hp → VK → Prop := fun xs H Q => (∃ i, xs = [.int i] ∧ Q (.int i) H) ∨ ∃ k, xs = [.bl k] ∧ Q (.int (if k then 1 else 0)) H
theorem cd_intB {b : Bool} : CD K rInt1 [.bool b] (.int (if b then 1 else 0)) := fun H Hm xs s hx Q q => by
  have := dp_bools (bs := [b]) hx
  subst this
  exact .inr ⟨b, rfl, q _ H Hm (Gr.refl s) (.int _)⟩
abbrev rTupOf (K : PySem.W.Frag) : List V → Hp → VK → Prop := fun xs H Q => ∃ p ys, xs = [.ref p] ∧ ((SqL K H p ys ∧ ∀ l, H l = none → Q (.ref l) (upd H l (.tup ys))) ∨ (SqT K H p ys ∧ Q (.ref p) H))
theorem cd_tupL {ds : List D} : CD K (rTupOf K) [.list ds] (.tuple ds) := fun H Hm xs s hx Q q => by
  obtain ⟨v, rfl, h⟩ := dps1 hx
  obtain ⟨a, ys, rfl, hs, ha⟩ := dp_lst h
  exact ⟨a, ys, rfl, .inl ⟨ex_l s hs, fun p hp => q _ _ _ (Gr.new s hp) (.tup (.inl (.inl upd_same)) (ha.mono (Ex.new (fresh_back s hp))))⟩⟩
theorem cd_tupT {ds : List D} : CD K (rTupOf K) [.tuple ds] (.tuple ds) := fun H Hm xs s hx Q q => by
  obtain ⟨v, rfl, h⟩ := dps1 hx
  obtain ⟨a, ys, rfl, hs, ha⟩ := dp_tup h
  exact ⟨a, ys, rfl, .inr ⟨ex_t s hs, q _ H Hm (Gr.refl s) (.tup hs ha)⟩⟩
abbrev rLstOf (K : PySem.W.Frag) : List V → Hp → VK → Prop := fun xs H Q => ∃ p ys, xs = [.ref p] ∧ (SqL K H p ys ∨ SqT K H p ys) ∧ ∀ l, H l = none → Q (.ref l) (upd H l (.lst ys))
theorem cl_lstT {ds : List D} : CL K (rLstOf K) [.tuple ds] ds := fun H Hm xs s hx Q q => by
  obtain ⟨v, rfl, h⟩ := dps1 hx
  obtain ⟨a, ys, rfl, hs, ha⟩ := dp_tup h
  exact ⟨a, ys, rfl, .inr (ex_t s hs), fun p hp => q p ys _ Hm (Gr.priv s hp) hp (fresh_back s hp) upd_same ha⟩
theorem cl_lstL {ds : List D} : CL K (rLstOf K) [.list ds] ds := fun H Hm xs s hx Q q => by
  obtain ⟨v, rfl, h⟩ := dps1 hx
  obtain ⟨a, ys, rfl, hs, ha⟩ := dp_lst h
  exact ⟨a, ys, rfl, .inl (ex_l s hs), fun p hp => q p ys _ Hm (Gr.priv s hp) hp (fresh_back s hp) upd_same ha⟩
/-- xs + ys, xs * k of lists -/
theorem Gr.newL {H Hm : Hp} {p : Addr} {vs : List V} (s : Ex Hm H) (hp : H p = none) : Gr H Hm (upd H p (.lst vs)) Hm := Gr.priv s hp
def RL (K : PySem.W.Frag) (r : R2) (a b : D) (cs : List D) : Prop := ∀ H Hm x y, Ex Hm H → Dp K Hm x a → Dp K Hm y b → ∀ Q : VK,
  (∀ p vs H2 Hm2, Gr H Hm H2 Hm2 → H p = none → Hm2 p = none → H2 p = some (.lst vs) → DpAll K Hm2 vs cs → Q (.ref p) H2) → r x y H Q
theorem el_op {r : R2} {ta tb : TE} {ρ : Rho} {a b : D} {cs : List D} (ha : ED K ta ρ a) (hb : ED K tb ρ b) (hr : RL K r a b cs) : EL K (tOp r ta tb) ρ cs := fun σ H Hm s l hs Q q =>
  ha σ H Hm s l hs _ fun x H1 Hm1 g1 h1 => hb σ H1 Hm1 g1.sub l (hs.mono g1.em) _ fun y H2 Hm2 g2 h2 =>
    hr H2 Hm2 x y g2.sub (h1.mono g2.em) h2 Q fun p vs H3 Hm3 g3 hp hm h3 hd => q p vs H3 Hm3 ((g1.trans g2).trans g3) (fresh_back (g1.ex.trans g2.ex) hp) hm h3 hd

/-! ### isinstance with a built-in class -/
def tyD : D → String
  | .none => "NoneType"
  | .bool _ => "bool"
  | .int _ => "int"
  | .str _ => "str"
  | .list _ => "list"
  | .tuple _ => "tuple"
  | .dict _ => "dict"
theorem tyx_of {H : Hp} {v : V} : ∀ {d : D}, Dp K H v d → TyX K H v (.type (tyD d))
  | .none, h => by cases h; exact .base .non
  | .bool b, h => by cases h; exact .base (.bl b)
  | .int i, h => by cases h; exact .base (.int i)
  | .str x, h => by cases h; exact .base (.str x)
  | .list ds, h => by
    cases h with
    | lst hs _ =>
      rcases hs with (h | ⟨o, h⟩) | ⟨o, its, n, h1, h2, _⟩
      · exact .base (.lst h)
      · exact .base (.frz h)
      · exact .kList h1 h2
  | .tuple ds, h => by
    cases h with
    | tup hs _ =>
      rcases hs with (h | ⟨o, h⟩) | ⟨o, its, n, h1, h2, _⟩
      · exact .base (.tup h)
      · exact .fTuple h
      · exact .kTuple h1 h2
  | .dict _, h => by cases h
def isTy (d : D) (T : String) : Bool := (kitB (tyD d) T).getD false
theorem ed_isi {ρ : Rho} {te : TE} {d : D} {T : String} {b : Bool} (h : ED K te ρ d) (hb : kitB (tyD d) T = some b) : ED K (tCB (rIsi K) (tCons te (tCons (tC (.ty T)) tNil))) ρ (.bool b) := fun σ H Hm s l hs Q q =>
  h σ H Hm s l hs _ fun v H1 Hm1 g1 h1 => ⟨v, .ty T, .type (tyD d), .type T, b, rfl, .ty T, tyx_of (h1.mono g1.sub), kit_ty hb, q _ H1 Hm1 g1 (.bl b)⟩
theorem kb_tuple : ∀ d : D, kitB (tyD d) "tuple" = some (match d with | .tuple _ => true | _ => false)
  | .none => (by decide +kernel : kitB "NoneType" "tuple" = some false)
  | .bool _ => (by decide +kernel : kitB "bool" "tuple" = some false)
  | .int _ => (by decide +kernel : kitB "int" "tuple" = some false)
  | .str _ => (by decide +kernel : kitB "str" "tuple" = some false)
  | .list _ => (by decide +kernel : kitB "list" "tuple" = some false)
  | .tuple _ => (by decide +kernel : kitB "tuple" "tuple" = some true)
  | .dict _ => (by decide +kernel : kitB "dict" "tuple" = some false)
theorem kb_int : ∀ d : D, kitB (tyD d) "int" = some (match d with | .bool _ => true | .int _ => true | _ => false)
  | .none => (by decide +kernel : kitB "NoneType" "int" = some false)
  | .bool _ => (by decide +kernel : kitB "bool" "int" = some true)
  | .int _ => (by decide +kernel : kitB "int" "int" = some true)
  | .str _ => (by decide +kernel : kitB "str" "int" = some false)
  | .list _ => (by decide +kernel : kitB "list" "int" = some false)
  | .tuple _ => (by decide +kernel : kitB "tuple" "int" = some false)
  | .dict _ => (by decide +kernel : kitB "dict" "int" = some false)
theorem kb_bool : ∀ d : D, kitB (tyD d) "bool" = some (match d with | .bool _ => true | _ => false)
  | .none => (by decide +kernel : kitB "NoneType" "bool" = some false)
  | .bool _ => (by decide +kernel : kitB "bool" "bool" = some true)
  | .int _ => (by decide +kernel : kitB "int" "bool" = some false)
  | .str _ => (by decide +kernel : kitB "str" "bool" = some false)
  | .list _ => (by decide +kernel : kitB "list" "bool" = some false)
  | .tuple _ => (by decide +kernel : kitB "tuple" "bool" = some false)
  | .dict _ => (by decide +kernel : kitB "dict" "bool" = some false)
theorem kb_str : ∀ d : D, kitB (tyD d) "str" = some (match d with | .str _ => true | _ => false)
  | .none => (by decide +kernel : kitB "NoneType" "str" = some false)
  | .bool _ => (by decide +kernel : kitB "bool" "str" = some false)
  | .int _ => (by decide +kernel : kitB "int" "str" = some false)
  | .str _ => (by decide +kernel : kitB "str" "str" = some true)
  | .list _ => (by decide +kernel : kitB "list" "str" = some false)
  | .tuple _ => (by decide +kernel : kitB "tuple" "str" = some false)
  | .dict _ => (by decide +kernel : kitB "dict" "str" = some false)
end

/-! ### slices -/
section
variable {K : PySem.W.Frag} {ρ : Rho} {te : TE} {tl th : TO} {lo hi : Option Int} {ds : List D}
def cut {α : Type} (xs : List α) (lo hi : Option Int) : List α := (xs.drop (HT.sIx xs.length 0 lo)).take (HT.sIx xs.length xs.length hi - HT.sIx xs.length 0 lo)
theorem cut_dp {H : Hp} {vs : List V} (h : DpAll K H vs ds) : DpAll K H (cutV vs lo hi) (cut ds lo hi) := by
  unfold cutV cut
  rw [h.len]
  exact (h.drop _).take _
theorem ed_slT (h : ED K te ρ (.tuple ds)) (h1 : EO K tl ρ lo) (h2 : EO K th ρ hi) : ED K (tSl (rSlA K) te tl th) ρ (.tuple (cut ds lo hi)) := fun σ H Hm s l hs Q q =>
  h σ H Hm s l hs _ fun v H1 Hm1 g1 d1 => h1 σ H1 Hm1 g1.sub l (hs.mono g1.em) _ fun H2 Hm2 g2 => h2 σ H2 Hm2 g2.sub l (hs.mono (g1.em.trans g2.em)) _ fun H3 Hm3 g3 => by
    obtain ⟨a, xs, rfl, hx, ha⟩ := dp_tup d1
    have g23 := g2.trans g3
    refine ⟨a, xs, rfl, ex_t g3.sub (ex_t g23.em hx), fun e => ?_, fun _ p hp => ?_⟩
    · have e' : cut ds lo hi = ds := by
        unfold cut
        rw [← ha.len]
        rw [e.1, e.2, ha.len, List.drop_zero, Nat.sub_zero, List.take_length]
      rw [e'] at q
      exact q _ H3 Hm3 (g1.trans g23) (.tup (ex_t g23.em hx) (ha.mono g23.em))
    · exact q _ _ _ ((g1.trans g23).trans (Gr.new g3.sub hp)) (.tup (.inl (.inl upd_same)) (((cut_dp ha).mono g23.em).mono (Ex.new (fresh_back g3.sub hp))))
theorem el_slL (h : ED K te ρ (.list ds)) (h1 : EO K tl ρ lo) (h2 : EO K th ρ hi) : EL K (tSl (rSlL K) te tl th) ρ (cut ds lo hi) := fun σ H Hm s l hs Q q =>
  h σ H Hm s l hs _ fun v H1 Hm1 g1 d1 => h1 σ H1 Hm1 g1.sub l (hs.mono g1.em) _ fun H2 Hm2 g2 => h2 σ H2 Hm2 g2.sub l (hs.mono (g1.em.trans g2.em)) _ fun H3 Hm3 g3 => by
    obtain ⟨a, xs, rfl, hx, ha⟩ := dp_lst d1
    have g23 := g2.trans g3
    exact ⟨a, xs, rfl, ex_l g3.sub (ex_l g23.em hx), fun p hp => q p _ _ Hm3 ((g1.trans g23).trans (Gr.priv g3.sub hp)) (fresh_back (g1.ex.trans g23.ex) hp) (fresh_back g3.sub hp) upd_same ((cut_dp ha).mono g23.em)⟩
end

/-! ### statements -/
/-- the def's own list: its slot, what it holds -/
abbrev Om := Option (Nat × List D)
def OwnOk (K : PySem.W.Frag) (H0 H Hm : Hp) (σ : L2.St) : Om → Prop
  | none => True
  | some (i, ds) => ∃ a vs, σ[i]? = some (some (.ref a)) ∧ H0 a = none ∧ Hm a = none ∧ H a = some (.lst vs) ∧ DpAll K Hm vs ds
structure Stt (K : PySem.W.Frag) (H0 Hm0 H Hm : Hp) (σ : L2.St) (ρ : Rho) (ω : Om) : Prop where
  gr : Gr H0 Hm0 H Hm
  len : ρ.length ≤ σ.length
  sd : Sd K Hm σ ρ
  own : OwnOk K H0 H Hm σ ω
inductive Out where
  | nx (ρ : Rho) (ω : Om)
  | rt (d : D)
  | bk (ρ : Rho) (ω : Om)
def Fn (K : PySem.W.Frag) (H0 Hm0 Hb : Hp) (E : Ends) : Out → Prop
  | .nx ρ ω => ∀ σ H Hm, Ex Hb Hm → Stt K H0 Hm0 H Hm σ ρ ω → E.nx σ H
  | .rt d => ∀ v H Hm, Gr H0 Hm0 H Hm → Dp K Hm v d → E.rt v H
  | .bk ρ ω => ∀ σ H Hm, Ex Hb Hm → Stt K H0 Hm0 H Hm σ ρ ω → E.bk σ H
def XD (K : PySem.W.Frag) (ts : TS) (ρ : Rho) (ω : Om) (o : Out) : Prop := ∀ H0 Hm0 E σ H Hm, Stt K H0 Hm0 H Hm σ ρ ω → Fn K H0 Hm0 Hm E o → ts E σ H
/-- with the own list to be read -/
def vw (ρ : Rho) : Om → Rho
  | none => ρ
  | some (i, ds) => ρ.set i (some (.list ds))
section
variable {K : PySem.W.Frag} {ρ ρ' : Rho} {ω ω' : Om} {o : Out} {t u w : TS} {te : TE} {tt : TT} {d : D} {ds : List D} {i j : Nat}
theorem Fn.mono {H0 Hm0 Hb Hb' : Hp} {E : Ends} {o : Out} (h : Fn K H0 Hm0 Hb E o) (e : Ex Hb Hb') : Fn K H0 Hm0 Hb' E o := by
  cases o with
  | nx ρ ω => exact fun σ H Hm x s => h σ H Hm (e.trans x) s
  | rt d => exact h
  | bk ρ ω => exact fun σ H Hm x s => h σ H Hm (e.trans x) s
theorem xd_out {o' : Out} (h : XD K t ρ ω o) (e : o = o') : XD K t ρ ω o' := e ▸ h
theorem xd_seq (h : XD K t ρ ω (.nx ρ' ω')) (k : XD K u ρ' ω' o) : XD K (tSeq t u) ρ ω o := fun H0 Hm0 E σ H Hm S f =>
  h H0 Hm0 _ σ H Hm S fun σ' H' Hm' x S' => k H0 Hm0 E σ' H' Hm' S' (f.mono x)
theorem xd_seq_rt (h : XD K t ρ ω (.rt d)) : XD K (tSeq t u) ρ ω (.rt d) := fun H0 Hm0 E σ H Hm S f => h H0 Hm0 _ σ H Hm S f
theorem xd_seq_bk (h : XD K t ρ ω (.bk ρ' ω')) : XD K (tSeq t u) ρ ω (.bk ρ' ω') := fun H0 Hm0 E σ H Hm S f => h H0 Hm0 _ σ H Hm S f
theorem xd_next : XD K tNext ρ ω (.nx ρ ω) := fun H0 Hm0 E σ H Hm S f => f σ H Hm (Ex.refl _) S
theorem xd_break : XD K tBreak ρ ω (.bk ρ ω) := fun H0 Hm0 E σ H Hm S f => f σ H Hm (Ex.refl _) S
/-- slots forgotten -/
theorem Stt.less {H0 Hm0 H Hm : Hp} {σ : L2.St} (S : Stt K H0 Hm0 H Hm σ ρ ω) (hl : ρ'.length = ρ.length) (hw : ∀ (i : Nat) (d : D), ρ'[i]? = some (some d) → ρ[i]? = some (some d)) : Stt K H0 Hm0 H Hm σ ρ' ω :=
  ⟨S.gr, by rw [hl]; exact S.len, S.sd.less hw, S.own⟩
theorem OwnOk.grow {H0 H Hm H2 Hm2 : Hp} {σ : L2.St} (h : OwnOk K H0 H Hm σ ω) (g : Gr H Hm H2 Hm2) : OwnOk K H0 H2 Hm2 σ ω := by
  cases ω with
  | none => trivial
  | some q =>
    obtain ⟨a, vs, h1, h2, h3, h4, h5⟩ := h
    exact ⟨a, vs, h1, h2, g.own _ _ h4 h3, g.ex _ _ h4, h5.mono g.em⟩
theorem Stt.grow {H0 Hm0 H Hm H2 Hm2 : Hp} {σ : L2.St} (S : Stt K H0 Hm0 H Hm σ ρ ω) (g : Gr H Hm H2 Hm2) : Stt K H0 Hm0 H2 Hm2 σ ρ ω :=
  ⟨S.gr.trans g, S.len, S.sd.mono g.em, S.own.grow g⟩
/-- what is seen with the own list shown -/
theorem Stt.view {H0 Hm0 H Hm : Hp} {σ : L2.St} (S : Stt K H0 Hm0 H Hm σ ρ ω) : ∃ Hv, Ex Hv H ∧ Ex Hm Hv ∧ Sd K Hv σ (vw ρ ω) ∧ (vw ρ ω).length ≤ σ.length ∧ Gr H0 Hm0 H Hv ∧
    match ω with
    | none => Hv = Hm
    | some (i, ds) => ∃ a vs, σ[i]? = some (some (.ref a)) ∧ H0 a = none ∧ Hm a = none ∧ H a = some (.lst vs) ∧ DpAll K Hm vs ds ∧ Hv = upd Hm a (.lst vs) := by
  cases ω with
  | none => exact ⟨Hm, S.gr.sub, Ex.refl _, S.sd, S.len, S.gr, rfl⟩
  | some q =>
    obtain ⟨i, ds⟩ := q
    obtain ⟨a, vs, h1, h2, h3, h4, h5⟩ := S.own
    have em : Ex Hm (upd Hm a (.lst vs)) := Ex.new h3
    have sub : Ex (upd Hm a (.lst vs)) H := fun b o e => by
      by_cases z : b = a
      · subst z; rw [upd_same] at e; cases e; exact h4
      · rw [upd_ne z] at e; exact S.gr.sub b o e
    refine ⟨upd Hm a (.lst vs), sub, em, fun k e hk => ?_, by show (ρ.set i _).length ≤ _; rw [List.length_set]; exact S.len, ⟨S.gr.ex, S.gr.em.trans em, sub, fun b o e n => ?_⟩, a, vs, h1, h2, h3, h4, h5, rfl⟩
    · rcases set_get hk with ⟨rfl, e1, _⟩ | ⟨_, h⟩
      · cases e1
        exact ⟨_, h1, .lst (.inl (.inl upd_same)) (h5.mono em)⟩
      · obtain ⟨v, q1, q2⟩ := S.sd k e h
        exact ⟨v, q1, q2.mono em⟩
    · rw [upd_ne (ne_of_none e h2)]
      exact S.gr.own b o e n
/-- behind an expression that was read with the own list shown: hidden again -/
theorem Stt.hide {H0 Hm0 H Hm Hv H2 Hv2 : Hp} {σ : L2.St} (S : Stt K H0 Hm0 H Hm σ ρ ω) (hv : Ex Hm Hv) (hz : match ω with
    | none => Hv = Hm
    | some (i, ds) => ∃ a vs, σ[i]? = some (some (.ref a)) ∧ H0 a = none ∧ Hm a = none ∧ H a = some (.lst vs) ∧ DpAll K Hm vs ds ∧ Hv = upd Hm a (.lst vs)) (g : Gr H Hv H2 Hv2) :
    ∃ Hm2, Ex Hm Hm2 ∧ Stt K H0 Hm0 H2 Hm2 σ ρ ω ∧ ∀ v d, (ω = none ∨ imm d = true) → Dp K Hv2 v d → Dp K Hm2 v d := by
  cases ω with
  | none =>
    have hz : Hv = Hm := hz
    subst hz
    exact ⟨Hv2, g.em, S.grow g, fun _ _ _ h => h⟩
  | some q =>
    obtain ⟨i, ds⟩ := q
    obtain ⟨a, vs, h1, h2, h3, h4, h5, e⟩ := hz
    subst e
    have e2 : Hv2 a = some (.lst vs) := g.em _ _ upd_same
    have em : Ex Hm (era Hv2 a) := fun b o e => by
      have hne : b ≠ a := fun z => by subst z; rw [h3] at e; cases e
      rw [era_ne hne]
      exact g.em b o (by rw [upd_ne hne]; exact e)
    refine ⟨era Hv2 a, em, ⟨⟨S.gr.ex.trans g.ex, S.gr.em.trans em, era_ex.trans g.sub, fun b o e n => ?_⟩, S.len, S.sd.mono em, a, vs, h1, h2, era_same, g.ex _ _ h4, h5.mono em⟩, fun v d hd h => ?_⟩
    · by_cases z : b = a
      · subst z; exact era_same
      · rw [era_ne z]
        refine g.own b o (S.gr.ex b o e) ?_
        rw [upd_ne z]
        exact S.gr.own b o e n
    · rcases hd with hd | hd
      · cases hd
      · exact dp_era e2 d v hd h
theorem xd_asg (h : ED K te (vw ρ ω) d) (hd : ω = none ∨ imm d = true := by first | exact .inl rfl | exact .inr (by rfl) | exact .inr (by assumption)) (hi : ∀ q, ω = some q → q.1 ≠ i := by first | (intro _ h; cases h; done) | (intro _ h; cases h; decide)) : XD K (tAsg te (gName i)) ρ ω (.nx (ρ.set i (some d)) ω) := fun H0 Hm0 E σ H Hm S f => by
  obtain ⟨Hv, s1, s2, s3, s4, s5, s6⟩ := S.view
  refine h σ H Hv s1 s4 s3 _ fun v H2 Hv2 g hv => ?_
  obtain ⟨Hm2, em, S2, back⟩ := S.hide s2 s6 g
  refine f _ H2 Hm2 em ⟨S2.gr, by rw [List.length_set, List.length_set]; exact S.len, S2.sd.set S.len i (back v d hd hv), ?_⟩
  cases ω with
  | none => trivial
  | some q =>
    obtain ⟨a, vs, h1, h2⟩ := S2.own
    exact ⟨a, vs, by rw [List.getElem?_set_ne (Ne.symm (hi _ rfl))]; exact h1, h2⟩
/-- x = a new list, that the def changes itself -/
theorem xd_asgOwn (h : EL K te ρ ds) (hi : i < ρ.length := by first | decide | simp) : XD K (tAsg te (gName i)) ρ none (.nx (ρ.set i none) (some (i, ds))) := fun H0 Hm0 E σ H Hm S f => by
  have hi : i < σ.length := Nat.lt_of_lt_of_le hi S.len
  · refine h σ H Hm S.gr.sub S.len S.sd _ fun p vs H2 Hm2 g hp hm h2 hd => ?_
    exact f _ H2 Hm2 g.em ⟨S.gr.trans g, by rw [List.length_set, List.length_set]; exact S.len, (S.sd.mono g.em).drop i _, p, vs, List.getElem?_set_self hi, fresh_back S.gr.ex hp, hm, h2, hd⟩
end
end LM

set_option Elab.async false
set_option linter.all false
set_option maxRecDepth 100000
/-! Lm3: statements (more), loops, defs, by data. -/
namespace LM
open PySem PySem.Spec PyProof.Rows L2 Evl
section
variable {K : PySem.W.Frag} {ρ ρ' : Rho} {ω ω' : Om} {o : Out} {t u w : TS} {te : TE} {ta : TA} {tt : TT} {d : D} {ds es : List D} {i j : Nat}
theorem xd_ret (h : ED K te (vw ρ ω) d) : XD K (tRet te) ρ ω (.rt d) := fun H0 Hm0 E σ H Hm S f => by
  obtain ⟨Hv, s1, s2, s3, s4, s5, s6⟩ := S.view
  exact h σ H Hv s1 s4 s3 _ fun v H2 Hv2 g hv => f v H2 Hv2 (s5.trans g) hv
theorem xd_retL (h : EL K te (vw ρ ω) ds) : XD K (tRet te) ρ ω (.rt (.list ds)) := xd_ret (ed_el h)
theorem xd_if {b : Bool} (h : ET K tt (vw ρ ω) b) (h1 : b = true → XD K t ρ ω o) (h2 : b = false → XD K u ρ ω o) : XD K (tIfS tt t u) ρ ω o := fun H0 Hm0 E σ H Hm S f => by
  obtain ⟨Hv, s1, s2, s3, s4, s5, s6⟩ := S.view
  refine h σ H Hv s1 s4 s3 _ fun H2 Hv2 g => ?_
  obtain ⟨Hm2, em, S2, back⟩ := S.hide s2 s6 g
  cases b with
  | true => exact h1 rfl H0 Hm0 E σ H2 Hm2 S2 (f.mono em)
  | false => exact h2 rfl H0 Hm0 E σ H2 Hm2 S2 (f.mono em)
theorem xd_ifT (h : ET K tt (vw ρ ω) true) (h1 : XD K t ρ ω o) : XD K (tIfS tt t u) ρ ω o := xd_if h (fun _ => h1) (fun z => nomatch z)
theorem xd_ifF (h : ET K tt (vw ρ ω) false) (h1 : XD K u ρ ω o) : XD K (tIfS tt t u) ρ ω o := xd_if h (fun z => nomatch z) (fun _ => h1)
/-- the own list behind a change -/
theorem Stt.put {H0 Hm0 H Hm : Hp} {σ : L2.St} {vs : List V} {a : Addr} (S : Stt K H0 Hm0 H Hm σ ρ (some (i, ds))) (h1 : σ[i]? = some (some (.ref a))) (h2 : H0 a = none) (h3 : Hm a = none) (hd : DpAll K Hm vs es) :
    Stt K H0 Hm0 (upd H a (.lst vs)) Hm σ ρ (some (i, es)) := by
  refine ⟨⟨Ex.mut S.gr.ex h2, S.gr.em, fun b o e => ?_, S.gr.own⟩, S.len, S.sd, a, vs, h1, h2, h3, upd_same, hd⟩
  have hne : b ≠ a := fun z => by subst z; rw [h3] at e; cases e
  rw [upd_ne hne]; exact S.gr.sub b o e
/-- xs.append(e) -/
theorem xd_app (h : ED K te (ρ.set i (some (.list ds))) d) (hd : imm d = true := by first | rfl | assumption) (hz : ds.length ≤ 90000 := by first | assumption | decide | omega) :
    XD K (tDrop (tBM K "list" rAppend (tVar i) (tCons te tNil))) ρ (some (i, ds)) (.nx ρ (some (i, ds ++ [d]))) := fun H0 Hm0 E σ H Hm S f => by
  obtain ⟨Hv, s1, s2, s3, s4, s5, s6⟩ := S.view
  obtain ⟨a, vs, h1, h2, h3, h4, h5, e⟩ := id s6
  refine ⟨.ref a, h1, .inl ⟨rfl, vs, .inl (.inl h4)⟩, ?_⟩
  refine h σ H Hv s1 s4 s3 _ fun v H2 Hv2 g hv => ?_
  obtain ⟨Hm2, em, S2, back⟩ := S.hide s2 s6 g
  obtain ⟨a', vs', k1, k2, k3, k4, k5⟩ := S2.own
  rw [h1] at k1
  cases k1
  rw [g.ex _ _ h4] at k4
  cases k4
  refine ⟨a, vs, v, rfl, rfl, g.ex _ _ h4, sz_lt (by rw [h5.len]; omega), ?_⟩
  exact f _ _ Hm2 em (S2.put h1 k2 k3 (k5.snoc (back v d (.inr hd) hv)))
/-- .. of a new list -/
theorem xd_appL {cs : List D} (h : EL K te ρ cs) (hi : ∀ d : D, ρ[i]? ≠ some (some d)) (hz : ds.length ≤ 90000 := by first | assumption | decide | omega) :
    XD K (tDrop (tBM K "list" rAppend (tVar i) (tCons te tNil))) ρ (some (i, ds)) (.nx ρ (some (i, ds ++ [.list cs]))) := fun H0 Hm0 E σ H Hm S f => by
  obtain ⟨a, vs, h1, h2, h3, h4, h5⟩ := S.own
  refine ⟨.ref a, h1, .inl ⟨rfl, vs, .inl (.inl h4)⟩, ?_⟩
  refine h σ H Hm S.gr.sub S.len S.sd _ fun p ws H2 Hm2 g hp hm e2 hd => ?_
  have g2 := g.show hp hm e2
  have S2 := S.grow g2
  obtain ⟨a', vs', k1, k2, k3, k4, k5⟩ := S2.own
  rw [h1] at k1
  cases k1
  rw [g.ex _ _ h4] at k4
  cases k4
  refine ⟨a, vs, .ref p, rfl, rfl, g.ex _ _ h4, sz_lt (by rw [h5.len]; omega), ?_⟩
  exact f _ _ _ g2.em (S2.put h1 k2 k3 (k5.snoc (.lst (.inl (.inl upd_same)) (hd.mono (Ex.new hm)))))
/-- .. of data that may hold lists, told without the own list -/
theorem xd_appD (h : ED K te ρ d) (hz : ds.length ≤ 90000 := by first | assumption | decide | omega) :
    XD K (tDrop (tBM K "list" rAppend (tVar i) (tCons te tNil))) ρ (some (i, ds)) (.nx ρ (some (i, ds ++ [d]))) := fun H0 Hm0 E σ H Hm S f => by
  obtain ⟨a, vs, h1, h2, h3, h4, h5⟩ := S.own
  refine ⟨.ref a, h1, .inl ⟨rfl, vs, .inl (.inl h4)⟩, ?_⟩
  refine h σ H Hm S.gr.sub S.len S.sd _ fun v H2 Hm2 g hv => ?_
  have S2 := S.grow g
  obtain ⟨a', vs', k1, k2, k3, k4, k5⟩ := S2.own
  rw [h1] at k1
  cases k1
  rw [g.ex _ _ h4] at k4
  cases k4
  refine ⟨a, vs, v, rfl, rfl, g.ex _ _ h4, sz_lt (by rw [h5.len]; omega), ?_⟩
  exact f _ _ _ g.em (S2.put h1 k2 k3 (k5.snoc hv))
/-- x = e with the own list not read: lists may stand in it -/
theorem xd_asgD (h : ED K te ρ d) (hi : ∀ q, ω = some q → q.1 ≠ i := by first | (intro _ h; cases h; done) | (intro _ h; cases h; decide)) : XD K (tAsg te (gName i)) ρ ω (.nx (ρ.set i (some d)) ω) := fun H0 Hm0 E σ H Hm S f => by
  refine h σ H Hm S.gr.sub S.len S.sd _ fun v H2 Hm2 g hv => ?_
  have S2 := S.grow g
  refine f _ H2 Hm2 g.em ⟨S2.gr, by rw [List.length_set, List.length_set]; exact S.len, S2.sd.set S.len i hv, ?_⟩
  cases ω with
  | none => trivial
  | some q =>
    obtain ⟨a, vs, h1, h2⟩ := S2.own
    exact ⟨a, vs, by rw [List.getElem?_set_ne (Ne.symm (hi _ rfl))]; exact h1, h2⟩
/-- the own list is let go: it is data from then on -/
theorem xd_free (hi : i < ρ.length) (k : XD K t (ρ.set i (some (.list ds))) none o) : XD K t ρ (some (i, ds)) o := fun H0 Hm0 E σ H Hm S f => by
  obtain ⟨Hv, s1, s2, s3, s4, s5, s6⟩ := S.view
  exact k H0 Hm0 E σ H Hv ⟨s5, s4, s3, trivial⟩ (f.mono s2)
/-- a, b = x, y -/
theorem xd_par {d' : D} (h : EDs K ta (vw ρ ω) [d, d']) (hd : ω = none ∨ (imm d = true ∧ imm d' = true) := by first | exact .inl rfl | exact .inr ⟨rfl, rfl⟩ | (right; constructor <;> assumption)) (hi : ∀ q, ω = some q → q.1 ≠ i ∧ q.1 ≠ j := by first | (intro _ h; cases h; done) | (intro _ h; cases h; decide)) :
    XD K (tPar i j ta) ρ ω (.nx ((ρ.set i (some d)).set j (some d')) ω) := fun H0 Hm0 E σ H Hm S f => by
  obtain ⟨Hv, s1, s2, s3, s4, s5, s6⟩ := S.view
  refine h σ H Hv s1 s4 s3 _ fun vs H2 Hv2 g hvs => ?_
  obtain ⟨v, v', rfl, hv, hv'⟩ := dps2 hvs
  obtain ⟨Hm2, em, S2, back⟩ := S.hide s2 s6 g
  have b1 := back v d (hd.imp id And.left) hv
  have b2 := back v' d' (hd.imp id And.right) hv'
  refine ⟨v, v', rfl, f _ H2 Hm2 em ⟨S2.gr, by simp only [List.length_set]; exact S.len, (S2.sd.set S.len i b1).set (by simp only [List.length_set]; exact S.len) j b2, ?_⟩⟩
  cases ω with
  | none => trivial
  | some q =>
    obtain ⟨a, vs, h1, h2⟩ := S2.own
    exact ⟨a, vs, by rw [List.getElem?_set_ne (Ne.symm (hi _ rfl).2), List.getElem?_set_ne (Ne.symm (hi _ rfl).1)]; exact h1, h2⟩
/-- a, b = e -/
theorem xd_unp {d' : D} (h : ED K te (vw ρ ω) (.tuple [d, d'])) (hd : ω = none ∨ (imm d = true ∧ imm d' = true) := by first | exact .inl rfl | exact .inr ⟨rfl, rfl⟩ | (right; constructor <;> assumption)) (hi : ∀ q, ω = some q → q.1 ≠ i ∧ q.1 ≠ j := by first | (intro _ h; cases h; done) | (intro _ h; cases h; decide)) :
    XD K (tAsg te (gTup K 2 (gCons (gName i) (gCons (gName j) gNil)))) ρ ω (.nx ((ρ.set i (some d)).set j (some d')) ω) := fun H0 Hm0 E σ H Hm S f => by
  obtain ⟨Hv, s1, s2, s3, s4, s5, s6⟩ := S.view
  refine h σ H Hv s1 s4 s3 _ fun vt H2 Hv2 g hvt => ?_
  obtain ⟨a, xs, rfl, hx, hvs⟩ := dp_tup hvt
  obtain ⟨v, v', rfl, hv, hv'⟩ := dps2 hvs
  obtain ⟨Hm2, em, S2, back⟩ := S.hide s2 s6 g
  have b1 := back v d (hd.imp id And.left) hv
  have b2 := back v' d' (hd.imp id And.right) hv'
  refine ⟨a, [v, v'], rfl, ex_t g.sub hx, rfl, v, [v'], rfl, v', [], rfl, rfl, f _ H2 Hm2 em ⟨S2.gr, by simp only [List.length_set]; exact S.len, (S2.sd.set S.len i b1).set (by simp only [List.length_set]; exact S.len) j b2, ?_⟩⟩
  cases ω with
  | none => trivial
  | some q =>
    obtain ⟨a, vs, h1, h2⟩ := S2.own
    exact ⟨a, vs, by rw [List.getElem?_set_ne (Ne.symm (hi _ rfl).2), List.getElem?_set_ne (Ne.symm (hi _ rfl).1)]; exact h1, h2⟩
/-- x += e, ints -/
theorem xd_aug {f : Int → Int → Int} {a b : Int} (hx : (vw ρ ω)[i]? = some (some (.int a))) (h : ED K te (vw ρ ω) (.int b)) (hi : ∀ q, ω = some q → q.1 ≠ i := by first | (intro _ h; cases h; done) | (intro _ h; cases h; decide)) : XD K (tAug i te (ipI f)) ρ ω (.nx (ρ.set i (some (.int (f a b)))) ω) := fun H0 Hm0 E σ H Hm S g0 => by
  obtain ⟨Hv, s1, s2, s3, s4, s5, s6⟩ := S.view
  obtain ⟨x, hx1, hx2⟩ := s3 i _ hx
  refine ⟨x, hx1, h σ H Hv s1 s4 s3 _ fun v H2 Hv2 g hv => ⟨a, b, dp_int hx2, dp_int hv, ?_⟩⟩
  obtain ⟨Hm2, em, S2, back⟩ := S.hide s2 s6 g
  refine g0 _ H2 Hm2 em ⟨S2.gr, by rw [List.length_set, List.length_set]; exact S.len, S2.sd.set S.len i (.int _), ?_⟩
  cases ω with
  | none => trivial
  | some q =>
    obtain ⟨a, vs, h1, h2⟩ := S2.own
    exact ⟨a, vs, by rw [List.getElem?_set_ne (Ne.symm (hi _ rfl))]; exact h1, h2⟩

/-! ### loops: the state at turn i is told by functions of i; m turns run through, then the items end, or turn m leaves -/
def Go (K : PySem.W.Frag) (tu : TS) (j : Nat) (items : List D) (ρs : Nat → Rho) (ωs : Nat → Om) (o : Out) : Prop :=
  ∃ m, m ≤ items.length ∧ (∀ i d, i < m → items[i]? = some d → XD K tu ((ρs i).set j (some d)) (ωs i) (.nx (ρs (i + 1)) (ωs (i + 1)))) ∧
    ((m = items.length ∧ o = .nx (ρs m) (ωs m)) ∨ ∃ d, items[m]? = some d ∧ ((∃ r, o = .rt r ∧ XD K tu ((ρs m).set j (some d)) (ωs m) (.rt r)) ∨ ∃ ρ' ω', o = .nx ρ' ω' ∧ XD K tu ((ρs m).set j (some d)) (ωs m) (.bk ρ' ω')))
theorem Go.all {tu : TS} {items : List D} {ρs : Nat → Rho} {ωs : Nat → Om} (h : ∀ i d, items[i]? = some d → XD K tu ((ρs i).set j (some d)) (ωs i) (.nx (ρs (i + 1)) (ωs (i + 1)))) : Go K tu j items ρs ωs (.nx (ρs items.length) (ωs items.length)) :=
  ⟨items.length, Nat.le_refl _, fun i d _ hd => h i d hd, .inl ⟨rfl, rfl⟩⟩
def GoI (K : PySem.W.Frag) (H0 Hm0 Hb : Hp) (ρs : Nat → Rho) (ωs : Nat → Om) (m i : Nat) (σ : L2.St) (H : Hp) : Prop := i ≤ m ∧ ∃ Hm, Ex Hb Hm ∧ Stt K H0 Hm0 H Hm σ (ρs i) (ωs i)
theorem Stt.setv {H0 Hm0 H Hm : Hp} {σ : L2.St} {v : V} (S : Stt K H0 Hm0 H Hm σ ρ ω) (hv : Dp K Hm v d) (hi : ∀ q, ω = some q → q.1 ≠ j) : Stt K H0 Hm0 H Hm (σ.set j (some v)) (ρ.set j (some d)) ω := by
  refine ⟨S.gr, by rw [List.length_set, List.length_set]; exact S.len, S.sd.set S.len j hv, ?_⟩
  cases ω with
  | none => trivial
  | some q =>
    obtain ⟨a, vs, h1, h2⟩ := S.own
    exact ⟨a, vs, by rw [List.getElem?_set_ne (Ne.symm (hi _ rfl))]; exact h1, h2⟩
/-- one turn, in the midst -/
theorem go_turn {tu : TS} {items : List D} {ρs : Nat → Rho} {ωs : Nat → Om} {H0 Hm0 Hb : Hp} {E : Ends} {σ : L2.St} {H : Hp} {v : V} {m : Nat} (hw : ∀ i q, ωs i = some q → q.1 ≠ j)
    (h1 : ∀ i d, i < m → items[i]? = some d → XD K tu ((ρs i).set j (some d)) (ωs i) (.nx (ρs (i + 1)) (ωs (i + 1))))
    (h2 : (m = items.length ∧ o = .nx (ρs m) (ωs m)) ∨ ∃ d, items[m]? = some d ∧ ((∃ r, o = .rt r ∧ XD K tu ((ρs m).set j (some d)) (ωs m) (.rt r)) ∨ ∃ ρ' ω', o = .nx ρ' ω' ∧ XD K tu ((ρs m).set j (some d)) (ωs m) (.bk ρ' ω')))
    (f : Fn K H0 Hm0 Hb E o) (hi : items[i]? = some d) (hv : Dp K Hb v d) (c : GoI K H0 Hm0 Hb ρs ωs m i σ H) :
    tu { E with nx := GoI K H0 Hm0 Hb ρs ωs m (i + 1), ct := GoI K H0 Hm0 Hb ρs ωs m (i + 1), bk := E.nx } (σ.set j (some v)) H := by
  obtain ⟨hm, Hm, em, S⟩ := c
  have S' := S.setv (hv.mono em) (hw i)
  by_cases hlt : i < m
  · exact h1 i d hlt hi H0 Hm0 _ _ H Hm S' fun σ' H' Hm' x S2 => ⟨hlt, Hm', em.trans x, S2⟩
  · have e : i = m := by omega
    subst e
    rcases h2 with ⟨z, _⟩ | ⟨d2, hd2, h3⟩
    · rw [List.getElem?_eq_none (by omega)] at hi; cases hi
    · rw [hi] at hd2
      cases hd2
      rcases h3 with ⟨r, rfl, hx⟩ | ⟨ρ', ω', rfl, hx⟩
      · exact hx H0 Hm0 _ _ H Hm S' f
      · exact hx H0 Hm0 _ _ H Hm S' fun σ' H' Hm' x S2 => f σ' H' Hm' (em.trans x) S2
theorem go_end {tu : TS} {items : List D} {ρs : Nat → Rho} {ωs : Nat → Om} {H0 Hm0 Hb : Hp} {E : Ends} {σ : L2.St} {H : Hp} {m : Nat} (hm : m ≤ items.length)
    (h2 : (m = items.length ∧ o = .nx (ρs m) (ωs m)) ∨ ∃ d, items[m]? = some d ∧ ((∃ r, o = .rt r ∧ XD K tu ((ρs m).set j (some d)) (ωs m) (.rt r)) ∨ ∃ ρ' ω', o = .nx ρ' ω' ∧ XD K tu ((ρs m).set j (some d)) (ωs m) (.bk ρ' ω')))
    (f : Fn K H0 Hm0 Hb E o) (c : GoI K H0 Hm0 Hb ρs ωs m items.length σ H) : E.nx σ H := by
  obtain ⟨hle, Hm, em, S⟩ := c
  rcases h2 with ⟨z, rfl⟩ | ⟨d2, hd2, _⟩
  · rw [← z] at S
    exact f σ H Hm em S
  · rw [List.getElem?_eq_none (by omega)] at hd2; cases hd2
theorem xd_forT {tl : TE} {tu : TS} {items : List D} (ρs : Nat → Rho) (ωs : Nat → Om) (hsrc : ED K tl (vw ρ ω) (.tuple items)) (hd : ω = none ∨ imms items = true := by first | exact .inl rfl | exact .inr (by rfl) | exact .inr (by assumption)) (h0 : ρs 0 = ρ) (h0' : ωs 0 = ω) (hw : ∀ i q, ωs i = some q → q.1 ≠ j) (g : Go K tu j items ρs ωs o) :
    XD K (tFor (iTup K tl) (gName j) tu) ρ ω o := fun H0 Hm0 E σ H Hm S f => by
  obtain ⟨m, hm, h1, h2⟩ := g
  obtain ⟨Hv, s1, s2, s3, s4, s5, s6⟩ := S.view
  refine hsrc σ H Hv s1 s4 s3 _ fun v H1 Hv1 g1 hv => ?_
  obtain ⟨Hm1, em, S1, back⟩ := S.hide s2 s6 g1
  have hv' := back v (.tuple items) (hd.imp id (fun h => h)) hv
  obtain ⟨a, xs, rfl, hx, ha⟩ := dp_tup hv'
  have hl := ha.len
  refine ⟨a, rfl, ⟨xs, ex_t S1.gr.sub hx⟩, ?_⟩
  refine for_tup (xs := xs) (GoI K H0 Hm0 Hm1 ρs ωs m) ⟨Nat.zero_le _, Hm1, Ex.refl _, by rw [h0, h0']; exact S1⟩ (fun i σ' H' _ c => ?_) (fun i x σ' H' hi c => ?_) (fun σ' H' c => ?_)
  · obtain ⟨_, Hm', x, S'⟩ := c
    exact ex_t S'.gr.sub (ex_t x hx)
  · obtain ⟨d, hd, hxd⟩ := ha.get' hi
    exact go_turn hw h1 h2 (f.mono em) hd hxd c
  · rw [hl] at c
    exact go_end hm h2 (f.mono em) c
theorem xd_forL {tl : TE} {tu : TS} {items : List D} (ρs : Nat → Rho) (ωs : Nat → Om) (hsrc : ED K tl ρ (.list items)) (h0 : ρs 0 = ρ) (h0' : ωs 0 = ω) (hw : ∀ i q, ωs i = some q → q.1 ≠ j) (g : Go K tu j items ρs ωs o) :
    XD K (tFor (iList K tl) (gName j) tu) ρ ω o := fun H0 Hm0 E σ H Hm S f => by
  obtain ⟨m, hm, h1, h2⟩ := g
  refine hsrc σ H Hm S.gr.sub S.len S.sd _ fun v H1 Hm1 g1 hv => ?_
  have S1 := S.grow g1
  have em := g1.em
  obtain ⟨a, xs, rfl, hx, ha⟩ := dp_lst hv
  have hl := ha.len
  refine ⟨a, rfl, ⟨xs, ex_l S1.gr.sub hx⟩, ?_⟩
  refine for_list (xs := xs) (GoI K H0 Hm0 Hm1 ρs ωs m) ⟨Nat.zero_le _, Hm1, Ex.refl _, by rw [h0, h0']; exact S1⟩ (fun i σ' H' _ c => ?_) (fun i x σ' H' hi c => ?_) (fun σ' H' c => ?_)
  · obtain ⟨_, Hm', x, S'⟩ := c
    exact ex_l S'.gr.sub (ex_l x hx)
  · obtain ⟨d, hd, hxd⟩ := ha.get' hi
    exact go_turn hw h1 h2 (f.mono em) hd hxd c
  · rw [hl] at c
    exact go_end hm h2 (f.mono em) c
theorem xd_forR1 {ta : TA} {tu : TS} {n : Int} (ρs : Nat → Rho) (ωs : Nat → Om) (hsrc : EDs K ta (vw ρ ω) [.int n]) (hn : n ≤ 1000000000) (hn0 : -1000000000 ≤ n) (h0 : ρs 0 = ρ) (h0' : ωs 0 = ω) (hw : ∀ i q, ωs i = some q → q.1 ≠ j) (g : Go K tu j (rngD 0 n.toNat) ρs ωs o) :
    XD K (tFor (iRng1 ta) (gName j) tu) ρ ω o := fun H0 Hm0 E σ H Hm S f => by
  obtain ⟨m, hm, h1, h2⟩ := g
  obtain ⟨Hv, s1, s2, s3, s4, s5, s6⟩ := S.view
  refine hsrc σ H Hv s1 s4 s3 _ fun vs H1 Hv1 g1 hv => ?_
  obtain ⟨Hm1, em, S1, back⟩ := S.hide s2 s6 g1
  have ev : vs = [.int n] := dp_ints (ns := [n]) hv
  subst ev
  have hl := rngD_len 0 n.toNat
  refine ⟨n, rfl, by omega, by omega, ?_⟩
  refine for_range (lo := 0) (n := n.toNat) (GoI K H0 Hm0 Hm1 ρs ωs m) ⟨Nat.zero_le _, Hm1, Ex.refl _, by rw [h0, h0']; exact S1⟩ (fun i σ' H' hi c => ?_) (fun σ' H' c => ?_)
  · exact go_turn hw h1 h2 (f.mono em) (rngD_get hi) (.int _) c
  · rw [← hl] at c
    exact go_end hm h2 (f.mono em) c
theorem xd_forR2 {ta : TA} {tu : TS} {lo n : Int} (ρs : Nat → Rho) (ωs : Nat → Om) (hsrc : EDs K ta (vw ρ ω) [.int lo, .int n]) (hn : -1000000000 ≤ lo ∧ lo ≤ 1000000000 ∧ -1000000000 ≤ n ∧ n ≤ 1000000000) (h0 : ρs 0 = ρ) (h0' : ωs 0 = ω) (hw : ∀ i q, ωs i = some q → q.1 ≠ j) (g : Go K tu j (rngD lo (n - lo).toNat) ρs ωs o) :
    XD K (tFor (iRng2 ta) (gName j) tu) ρ ω o := fun H0 Hm0 E σ H Hm S f => by
  obtain ⟨m, hm, h1, h2⟩ := g
  obtain ⟨Hv, s1, s2, s3, s4, s5, s6⟩ := S.view
  refine hsrc σ H Hv s1 s4 s3 _ fun vs H1 Hv1 g1 hv => ?_
  obtain ⟨Hm1, em, S1, back⟩ := S.hide s2 s6 g1
  have ev : vs = [.int lo, .int n] := dp_ints (ns := [lo, n]) hv
  subst ev
  have hl := rngD_len lo (n - lo).toNat
  refine ⟨lo, n, rfl, by omega, ?_⟩
  refine for_range (lo := lo) (n := (n - lo).toNat) (GoI K H0 Hm0 Hm1 ρs ωs m) ⟨Nat.zero_le _, Hm1, Ex.refl _, by rw [h0, h0']; exact S1⟩ (fun i σ' H' hi c => ?_) (fun σ' H' c => ?_)
  · exact go_turn hw h1 h2 (f.mono em) (rngD_get hi) (.int _) c
  · rw [← hl] at c
    exact go_end hm h2 (f.mono em) c
/-- while: m turns, then the test fails, or turn m leaves -/
theorem xd_while {tu : TS} (ρs : Nat → Rho) (ωs : Nat → Om) (m : Nat) (h0 : ρs 0 = ρ) (h0' : ωs 0 = ω)
    (h1 : ∀ i, i < m → ET K tt (vw (ρs i) (ωs i)) true ∧ XD K tu (ρs i) (ωs i) (.nx (ρs (i + 1)) (ωs (i + 1))))
    (h2 : (ET K tt (vw (ρs m) (ωs m)) false ∧ o = .nx (ρs m) (ωs m)) ∨ (ET K tt (vw (ρs m) (ωs m)) true ∧ ((∃ r, o = .rt r ∧ XD K tu (ρs m) (ωs m) (.rt r)) ∨ ∃ ρ' ω', o = .nx ρ' ω' ∧ XD K tu (ρs m) (ωs m) (.bk ρ' ω')))) :
    XD K (tWhile tt tu) ρ ω o := fun H0 Hm0 E σ H Hm S f => by
  refine ⟨fun k σ' H' => ∃ i, i + k = m ∧ ∃ Hm', Ex Hm Hm' ∧ Stt K H0 Hm0 H' Hm' σ' (ρs i) (ωs i), ⟨m, 0, by omega, Hm, Ex.refl _, by rw [h0, h0']; exact S⟩, ?_⟩
  rintro k σ1 H1 ⟨i, hik, Hm1, e1, S1⟩
  obtain ⟨Hv, s1, s2, s3, s4, s5, s6⟩ := S1.view
  by_cases hlt : i < m
  · obtain ⟨c1, c2⟩ := h1 i hlt
    refine c1 σ1 H1 Hv s1 s4 s3 _ fun H2 Hv2 g => ?_
    obtain ⟨Hm2, em, S2, back⟩ := S1.hide s2 s6 g
    simp only [if_true]
    refine ⟨_, fun σ' H' hN => hN, c2 H0 Hm0 { E with nx := fun σ' H' => ∃ m', m' < k ∧ ∃ i', i' + m' = m ∧ ∃ Hm', Ex Hm Hm' ∧ Stt K H0 Hm0 H' Hm' σ' (ρs i') (ωs i'), ct := fun σ' H' => ∃ m', m' < k ∧ ∃ i', i' + m' = m ∧ ∃ Hm', Ex Hm Hm' ∧ Stt K H0 Hm0 H' Hm' σ' (ρs i') (ωs i'), bk := E.nx } σ1 H2 Hm2 S2 fun σ' H' Hm' x S' => ⟨k - 1, by omega, i + 1, by omega, Hm', (e1.trans em).trans x, S'⟩⟩
  · have e : i = m := by omega
    subst e
    rcases h2 with ⟨c1, rfl⟩ | ⟨c1, c2⟩
    · refine c1 σ1 H1 Hv s1 s4 s3 _ fun H2 Hv2 g => ?_
      obtain ⟨Hm2, em, S2, back⟩ := S1.hide s2 s6 g
      simp only [Bool.false_eq_true, if_false]
      exact f σ1 H2 Hm2 (e1.trans em) S2
    · refine c1 σ1 H1 Hv s1 s4 s3 _ fun H2 Hv2 g => ?_
      obtain ⟨Hm2, em, S2, back⟩ := S1.hide s2 s6 g
      simp only [if_true]
      refine ⟨fun _ _ => False, fun _ _ z => z.elim, ?_⟩
      rcases c2 with ⟨r, rfl, hx⟩ | ⟨ρ', ω', rfl, hx⟩
      · exact hx H0 Hm0 { E with nx := fun _ _ => False, ct := fun _ _ => False, bk := E.nx } σ1 H2 Hm2 S2 f
      · exact hx H0 Hm0 { E with nx := fun _ _ => False, ct := fun _ _ => False, bk := E.nx } σ1 H2 Hm2 S2 fun σ' H' Hm' x S' => f σ' H' Hm' ((e1.trans em).trans x) S'
end

/-! ### defs -/
def startR (N : List Str) (ds : List D) : Rho := ds.map some ++ List.replicate (N.length - ds.length) none
theorem startR_len {N : List Str} {ds : List D} (h : ds.length ≤ N.length) : (startR N ds).length = N.length := by
  unfold startR
  rw [List.length_append, List.length_map, List.length_replicate]; omega
theorem start_sd {K : PySem.W.Frag} {Hm : Hp} {N : List Str} {vs : List V} {ds : List D} (h : DpAll K Hm vs ds) : Sd K Hm (L2.start N vs) (startR N ds) := fun i d hi => by
  unfold startR at hi
  unfold L2.start
  by_cases hl : i < ds.length
  · rw [List.getElem?_append_left (by rw [List.length_map]; exact hl), List.getElem?_map] at hi
    obtain ⟨d', h1, h2⟩ := Option.map_eq_some_iff.mp hi
    cases h2
    obtain ⟨v, h3, h4⟩ := h.get h1
    have : i < vs.length := by rw [h.len]; exact hl
    exact ⟨v, by rw [List.getElem?_append_left (by rw [List.length_map]; exact this), List.getElem?_map, h3]; rfl, h4⟩
  · rw [List.getElem?_append_right (by rw [List.length_map]; omega)] at hi
    have := List.mem_of_getElem? hi
    rw [List.mem_replicate] at this
    cases this.2
structure Has (P : Program) (w : World) (K : PySem.W.Frag) (mg : Str → Option Value) (base : Heap) (k : Nat) (x : Str) (sp : Sp) : Prop where
  ex : ∃ f fd ps, FnOk P w K mg base CX0 k f fd ps sp ∧ mg x = some (.ref f) ∧ PySem.W.keepIn K (.ref f) = true ∧ Binds K fd ps []
theorem Has.mono {P : Program} {w : World} {K : PySem.W.Frag} {mg : Str → Option Value} {base : Heap} {j k : Nat} {x : Str} {sp : Sp} (h : Has P w K mg base j x sp) (hk : j ≤ k) : Has P w K mg base k x sp :=
  let ⟨f, fd, ps, F, a, b, c⟩ := h.ex
  ⟨f, fd, ps, F.mono hk, a, b, c⟩
section
variable {X : Cx} {k j : Nat} {x : Str} {sp : Sp} {e : Expr} {es : List Expr} {p pos : Pos} {t : TA}
theorem pe_h (c : Has X.prog X.w X.K X.mg X.base k x sp) (hr : Room j X.A) (hk : k ≤ j) (hg : Gl X x) (ha : PA X (e :: es) t)
    (hd : (x == ("__debug__" : Str)) = false := by decide) (hs : starEach (e :: es) X.env = (false, eval e X.env) :: starEach es X.env := by rfl) (hpl : (backTo pos (starEach es X.env)).any (·.1) = false := by rfl) :
    PE X (.Call (.Name x p) (e :: es) [] pos) (tCall sp [] E0 t) := by
  obtain ⟨f, fd, ps, F, hm, kp, b⟩ := c.ex
  exact pe_call F (hr.mono hk) hg hm kp b .nil pass0 ha (hdb := hd) (he := hs) (hpl := hpl)
theorem pe_h0 (c : Has X.prog X.w X.K X.mg X.base k x sp) (hr : Room j X.A) (hk : k ≤ j) (hg : Gl X x)
    (hd : (x == ("__debug__" : Str)) = false := by decide) :
    PE X (.Call (.Name x p) [] [] pos) (tCall sp [] E0 tNil) := by
  obtain ⟨f, fd, ps, F, hm, kp, b⟩ := c.ex
  exact pe_call0 F (hr.mono hk) hg hm kp b .nil pass0 (hdb := hd)
end
/-- a def that hands back data of data -/
theorem has_of {P : Program} {w : World} {K : PySem.W.Frag} {mg : Str → Option Value} {base : Heap} {x : Str} {st : Stmt} {f : Addr} {fd : FuncData} {N ps : List Str} {k : Nat} {R : List D → D → Prop} (F : Fun K x x st f fd) (b : Binds K fd ps []) (hm : mg x = some (.ref f)) (S : FnScope N ps (defScope st)) (hN : ps.length ≤ N.length)
    (len : ∀ ds r, R ds r → ds.length = ps.length)
    (hbody : ∀ (cdv : Value) (A : Around) (outer : List Env) (s : Shared) (H : Hp) (E : XK), Room k (A.deeper (envOfC x (defScope st) s.heap.objs.size f cdv)) →
      ∃ t, PSs (cxOf CX0 P w K mg base N x (defScope st) f cdv A outer s H E).nox (defBody st) t ∧ ∀ ds r, R ds r → XD K t (startR N ds) none (.rt r)) : Has P w K mg base (k + 1) x (SpR K R) := by
  refine ⟨f, fd, ps, F.ok S (fun vs H Q E h => ?_) (fun cdv A outer s H vs Q E hr h => ?_), hm, F.kp, b⟩
  · obtain ⟨ds, r, Hm, _, hd, hR, _⟩ := h
    rw [hd.len, len ds r hR]
  · obtain ⟨t, h1, h2⟩ := hbody cdv A outer s H E hr
    refine ⟨t, h1, ?_⟩
    obtain ⟨ds, r, Hm, s1, hd, hR, q⟩ := h
    have hl := len ds r hR
    exact h2 ds r hR H Hm _ (L2.start N vs) H Hm ⟨Gr.refl s1, by rw [startR_len (by omega)]; unfold L2.start; rw [List.length_append, List.length_map, List.length_replicate]; have := hd.len; omega, start_sd hd, trivial⟩ fun v H' Hm' g hv => q v H' Hm' g hv
end LM

set_option Elab.async false
set_option linter.all false
set_option maxRecDepth 100000
/-! LmT: tuples of tuples and nothing else (T), as data, their order, sorted lists of them. Plain mathematics. -/
namespace LM
open PySem
inductive T where
  | n (ts : List T)
namespace T
mutual
def data : T → PyData
  | .n ts => .tuple (datas ts)
def datas : List T → List PyData
  | [] => []
  | t :: ts => data t :: datas ts
end
theorem datas_eq : ∀ ts : List T, datas ts = ts.map data
  | [] => rfl
  | t :: ts => by rw [datas, datas_eq ts]; rfl
theorem data_n (ts : List T) : data (.n ts) = .tuple (ts.map data) := by rw [data, datas_eq]
mutual
def cmp : T → T → Ordering
  | .n xs, .n ys => cmps xs ys
def cmps : List T → List T → Ordering
  | [], [] => .eq
  | [], _ :: _ => .lt
  | _ :: _, [] => .gt
  | x :: xs, y :: ys => match cmp x y with
    | .eq => cmps xs ys
    | .lt => .lt
    | .gt => .gt
end
mutual
theorem cmp_self : ∀ x : T, cmp x x = .eq
  | .n xs => by rw [cmp]; exact cmps_self xs
theorem cmps_self : ∀ xs : List T, cmps xs xs = .eq
  | [] => by rw [cmps]
  | x :: xs => by rw [cmps, cmp_self x]; exact cmps_self xs
end
mutual
theorem eq_of_cmp : ∀ x y : T, cmp x y = .eq → x = y
  | .n xs, .n ys, h => by rw [cmp] at h; rw [eq_of_cmps xs ys h]
theorem eq_of_cmps : ∀ xs ys : List T, cmps xs ys = .eq → xs = ys
  | [], [], _ => rfl
  | [], _ :: _, h => by rw [cmps] at h; cases h
  | _ :: _, [], h => by rw [cmps] at h; cases h
  | x :: xs, y :: ys, h => by
    rw [cmps] at h
    cases e : cmp x y with
    | eq =>
      rw [e] at h
      rw [eq_of_cmp x y e, eq_of_cmps xs ys h]
    | lt => rw [e] at h; cases h
    | gt => rw [e] at h; cases h
end
mutual
theorem cmp_swap : ∀ x y : T, cmp y x = (cmp x y).swap
  | .n xs, .n ys => by rw [cmp, cmp]; exact cmps_swap xs ys
theorem cmps_swap : ∀ xs ys : List T, cmps ys xs = (cmps xs ys).swap
  | [], [] => by rw [cmps]; rfl
  | [], _ :: _ => by rw [cmps, cmps]; rfl
  | _ :: _, [] => by rw [cmps, cmps]; rfl
  | x :: xs, y :: ys => by
    rw [cmps, cmps, cmp_swap x y]
    cases e : cmp x y with
    | eq => exact cmps_swap xs ys
    | lt => rfl
    | gt => rfl
end
mutual
theorem cmp_trans : ∀ x y z : T, cmp x y = .lt → cmp y z = .lt → cmp x z = .lt
  | .n xs, .n ys, .n zs, h1, h2 => by rw [cmp] at *; exact cmps_trans xs ys zs h1 h2
theorem cmps_trans : ∀ xs ys zs : List T, cmps xs ys = .lt → cmps ys zs = .lt → cmps xs zs = .lt
  | [], _, [], h1, h2 => by
    rename_i ys
    cases ys with
    | nil => rw [cmps] at h1; cases h1
    | cons _ _ => rw [cmps] at h2; cases h2
  | [], _, _ :: _, _, _ => by rw [cmps]
  | _ :: _, [], _, h1, _ => by rw [cmps] at h1; cases h1
  | _ :: _, _ :: _, [], _, h2 => by rw [cmps] at h2; cases h2
  | x :: xs, y :: ys, z :: zs, h1, h2 => by
    rw [cmps] at h1 h2 ⊢
    cases e1 : cmp x y with
    | gt => rw [e1] at h1; cases h1
    | eq =>
      have := eq_of_cmp x y e1
      subst this
      rw [e1] at h1
      cases e2 : cmp x z with
      | gt => rw [e2] at h2; cases h2
      | lt => rfl
      | eq =>
        rw [e2] at h2
        exact cmps_trans xs ys zs h1 h2
    | lt =>
      cases e2 : cmp y z with
      | gt => rw [e2] at h2; cases h2
      | eq =>
        have := eq_of_cmp y z e2
        subst this
        rw [e1]
      | lt => rw [cmp_trans x y z e1 e2]
end
theorem cmp_eq {x y : T} : cmp x y = .eq ↔ x = y := ⟨eq_of_cmp x y, fun e => e ▸ cmp_self x⟩
instance : DecidableEq T := fun x y => if h : cmp x y = .eq then .isTrue (eq_of_cmp x y h) else .isFalse fun e => h (e ▸ cmp_self x)
theorem swap_gt {x y : T} : cmp x y = .gt ↔ cmp y x = .lt := by rw [cmp_swap x y]; cases cmp x y <;> decide
def lt (x y : T) : Bool := cmp x y == .lt
def lts (xs ys : List T) : Bool := cmps xs ys == .lt
theorem lt_iff {x y : T} : lt x y = true ↔ cmp x y = .lt := by unfold lt; cases cmp x y <;> decide
theorem lt_irr (x : T) : lt x x = false := by unfold lt; rw [cmp_self]; rfl
theorem lt_trans {x y z : T} (h1 : lt x y = true) (h2 : lt y z = true) : lt x z = true := lt_iff.mpr (cmp_trans x y z (lt_iff.mp h1) (lt_iff.mp h2))
theorem lt_asym {x y : T} (h : lt x y = true) : lt y x = false := by
  unfold lt
  rw [cmp_swap x y, lt_iff.mp h]; rfl
theorem lt_tot {x y : T} (h1 : lt x y = false) (h2 : lt y x = false) : x = y := by
  unfold lt at h1 h2
  rw [cmp_swap x y] at h2
  cases e : cmp x y with
  | eq => exact eq_of_cmp x y e
  | lt => rw [e] at h1; cases h1
  | gt => rw [e] at h2; cases h2
theorem nlt_trans {x y z : T} (h1 : lt y x = false) (h2 : lt z y = false) : lt z x = false := by
  cases h : lt z x with
  | false => rfl
  | true =>
    cases h3 : lt x y with
    | true => rw [lt_trans h h3] at h2; cases h2
    | false =>
      have := lt_tot h3 h1
      subst this
      rw [h] at h2; cases h2
/-- not above -/
def le (x y : T) : Prop := lt y x = false
theorem le_anti {x y : T} (h1 : le x y) (h2 : le y x) : x = y := lt_tot h2 h1
/-- strictly rising -/
def Asc (l : List T) : Prop := l.Pairwise fun x y => lt x y = true
theorem Asc.nodup {l : List T} (h : Asc l) : l.Nodup := h.imp fun {x y} hxy e => by
  rw [e, lt_irr] at hxy; cases hxy
theorem asc_ext : ∀ {l m : List T}, Asc l → Asc m → (∀ x, x ∈ l ↔ x ∈ m) → l = m
  | [], [], _, _, _ => rfl
  | [], y :: m, _, _, h => absurd ((h y).mpr List.mem_cons_self) (by simp)
  | x :: l, [], _, _, h => absurd ((h x).mp List.mem_cons_self) (by simp)
  | x :: l, y :: m, hl, hm, h => by
    have hl' := List.pairwise_cons.mp hl
    have hm' := List.pairwise_cons.mp hm
    have e : x = y := by
      rcases List.mem_cons.mp ((h x).mp List.mem_cons_self) with e | hx
      · exact e
      · rcases List.mem_cons.mp ((h y).mpr List.mem_cons_self) with e | hy
        · exact e.symm
        · have a := hm'.1 x hx
          have b := hl'.1 y hy
          rw [lt_asym a] at b; cases b
    subst e
    rw [asc_ext hl'.2 hm'.2 fun z => ?_]
    constructor
    · intro hz
      rcases List.mem_cons.mp ((h z).mp (List.mem_cons_of_mem _ hz)) with e | hz'
      · have := hl'.1 z hz
        rw [e, lt_irr] at this; cases this
      · exact hz'
    · intro hz
      rcases List.mem_cons.mp ((h z).mpr (List.mem_cons_of_mem _ hz)) with e | hz'
      · have := hm'.1 z hz
        rw [e, lt_irr] at this; cases this
      · exact hz'
/-- put in its place, once -/
def uins (x : T) : List T → List T
  | [] => [x]
  | y :: ys => match cmp x y with
    | .lt => x :: y :: ys
    | .eq => y :: ys
    | .gt => y :: uins x ys
/-- the set, rising -/
def set : List T → List T
  | [] => []
  | x :: xs => uins x (set xs)
theorem mem_uins {x z : T} : ∀ {l : List T}, z ∈ uins x l ↔ z = x ∨ z ∈ l
  | [] => by simp [uins]
  | y :: ys => by
    unfold uins
    cases e : cmp x y with
    | lt => simp
    | eq =>
      have := eq_of_cmp x y e
      subst this
      simp only [List.mem_cons]
      constructor
      · exact fun h => .inr h
      · rintro (h | h)
        · exact .inl h
        · exact h
    | gt =>
      simp only [List.mem_cons, mem_uins (l := ys)]
      constructor
      · rintro (h | h | h)
        · exact .inr (.inl h)
        · exact .inl h
        · exact .inr (.inr h)
      · rintro (h | h | h)
        · exact .inr (.inl h)
        · exact .inl h
        · exact .inr (.inr h)
theorem mem_set {z : T} : ∀ {l : List T}, z ∈ set l ↔ z ∈ l
  | [] => by simp [set]
  | x :: xs => by rw [set, mem_uins, mem_set (l := xs), List.mem_cons]
theorem asc_uins {x : T} : ∀ {l : List T}, Asc l → Asc (uins x l)
  | [], _ => List.pairwise_singleton _ _
  | y :: ys, h => by
    have h' := List.pairwise_cons.mp h
    unfold uins
    cases e : cmp x y with
    | lt =>
      refine List.pairwise_cons.mpr ⟨fun z hz => ?_, h⟩
      rcases List.mem_cons.mp hz with rfl | hz
      · exact lt_iff.mpr e
      · exact lt_trans (lt_iff.mpr e) (h'.1 z hz)
    | eq => exact h
    | gt =>
      refine List.pairwise_cons.mpr ⟨fun z hz => ?_, asc_uins h'.2⟩
      rcases mem_uins.mp hz with rfl | hz
      · exact lt_iff.mpr (swap_gt.mp e)
      · exact h'.1 z hz
theorem asc_set : ∀ l : List T, Asc (set l)
  | [] => List.Pairwise.nil
  | x :: xs => asc_uins (asc_set xs)
theorem set_of {l m : List T} (h : Asc l) (e : ∀ x, x ∈ l ↔ x ∈ m) : l = set m := asc_ext h (asc_set m) fun x => by rw [e, mem_set]
theorem set_idem {l : List T} (h : Asc l) : set l = l := (set_of h fun _ => Iff.rfl).symm
theorem set_ext {l m : List T} (e : ∀ x, x ∈ l ↔ x ∈ m) : set l = set m := asc_ext (asc_set l) (asc_set m) fun x => by rw [mem_set, mem_set, e]
theorem set_len (l : List T) : (set l).length ≤ l.length := by
  have key : ∀ (x : T) (l : List T), (uins x l).length ≤ l.length + 1 := by
    intro x l
    induction l with
    | nil => simp [uins]
    | cons y ys ih =>
      unfold uins
      cases cmp x y <;> simp <;> omega
  induction l with
  | nil => simp [set]
  | cons x xs ih =>
    have := key x (set xs)
    rw [set, List.length_cons]; omega
/-- put in its place -/
def ins (x : T) : List T → List T
  | [] => [x]
  | y :: ys => if lt y x = true then y :: ins x ys else x :: y :: ys
def sort : List T → List T
  | [] => []
  | x :: xs => ins x (sort xs)
def Srt (l : List T) : Prop := l.Pairwise fun x y => lt y x = false
theorem ins_perm (x : T) : ∀ l : List T, (ins x l).Perm (x :: l)
  | [] => List.Perm.refl _
  | y :: ys => by
    unfold ins
    split
    · exact ((ins_perm x ys).cons y).trans (List.Perm.swap x y ys)
    · exact List.Perm.refl _
theorem sort_perm : ∀ l : List T, (sort l).Perm l
  | [] => List.Perm.refl _
  | x :: xs => (ins_perm x (sort xs)).trans ((sort_perm xs).cons x)
theorem ins_srt {x : T} : ∀ {l : List T}, Srt l → Srt (ins x l)
  | [], _ => List.pairwise_singleton _ _
  | y :: ys, h => by
    have h' := List.pairwise_cons.mp h
    unfold ins
    split
    · rename_i hc
      refine List.pairwise_cons.mpr ⟨fun z hz => ?_, ins_srt h'.2⟩
      rcases List.mem_cons.mp ((ins_perm x ys).mem_iff.mp hz) with rfl | hz
      · exact lt_asym hc
      · exact h'.1 z hz
    · rename_i hc
      have hc : lt y x = false := by
        cases e : lt y x with
        | false => rfl
        | true => exact absurd e hc
      refine List.pairwise_cons.mpr ⟨fun z hz => ?_, h⟩
      rcases List.mem_cons.mp hz with rfl | hz
      · exact hc
      · exact nlt_trans hc (h'.1 z hz)
theorem sort_srt : ∀ l : List T, Srt (sort l)
  | [] => List.Pairwise.nil
  | x :: xs => ins_srt (sort_srt xs)
theorem srt_uniq : ∀ {l m : List T}, Srt l → Srt m → l.Perm m → l = m
  | [], m, _, _, h => (List.Perm.eq_nil h.symm).symm
  | x :: l, [], _, _, h => absurd h.length_eq (by simp)
  | x :: l, y :: m, hl, hm, h => by
    have hl' := List.pairwise_cons.mp hl
    have hm' := List.pairwise_cons.mp hm
    have e : x = y := by
      rcases List.mem_cons.mp (h.mem_iff.mp (List.mem_cons_self (a := x) (l := l))) with e | hx
      · exact e
      · rcases List.mem_cons.mp (h.mem_iff.mpr (List.mem_cons_self (a := y) (l := m))) with e | hy
        · exact e.symm
        · exact lt_tot (hm'.1 x hx) (hl'.1 y hy)
    subst e
    rw [srt_uniq hl'.2 hm'.2 h.cons_inv]
theorem sort_of {l m : List T} (h : Srt l) (p : l.Perm m) : l = sort m := srt_uniq h (sort_srt m) (p.trans (sort_perm m).symm)
theorem Asc.srt {l : List T} (h : Asc l) : Srt l := h.imp fun hxy => lt_asym hxy
theorem mem_sort {x : T} {l : List T} : x ∈ sort l ↔ x ∈ l := (sort_perm l).mem_iff
theorem sort_len (l : List T) : (sort l).length = l.length := (sort_perm l).length_eq
/-- from the left, an item that the last one is not -/
def once (acc : List T) : List T → List T
  | [] => acc
  | x :: xs => once (if acc.getLast? = some x then acc else acc ++ [x]) xs
theorem once_set : ∀ (l acc : List T), Asc acc → Srt l → (∀ x ∈ acc, ∀ y ∈ l, lt y x = false) → Asc (once acc l) ∧ ∀ x, x ∈ once acc l ↔ x ∈ acc ∨ x ∈ l
  | [], acc, h, _, _ => ⟨h, fun x => by simp [once]⟩
  | x :: xs, acc, h, hs, hb => by
    have hs' := List.pairwise_cons.mp hs
    unfold once
    by_cases hc : acc.getLast? = some x
    · rw [if_pos hc]
      have hm : x ∈ acc := List.mem_of_getLast? hc
      obtain ⟨h1, h2⟩ := once_set xs acc h hs'.2 fun a ha y hy => hb a ha y (List.mem_cons_of_mem _ hy)
      refine ⟨h1, fun z => ?_⟩
      rw [h2, List.mem_cons]
      constructor
      · rintro (h | h)
        · exact .inl h
        · exact .inr (.inr h)
      · rintro (h | rfl | h)
        · exact .inl h
        · exact .inl hm
        · exact .inr h
    · rw [if_neg hc]
      have hx : ∀ a ∈ acc, lt a x = true := fun a ha => by
        have h1 := hb a ha x List.mem_cons_self
        cases h2 : lt a x with
        | true => rfl
        | false =>
          exfalso
          have e := lt_tot h2 h1
          subst e
          cases hl : acc.getLast? with
          | none => rw [List.getLast?_eq_none_iff] at hl; rw [hl] at ha; cases ha
          | some b =>
            have hbm := List.mem_of_getLast? hl
            have hba := hb b hbm a List.mem_cons_self
            obtain ⟨pre, rfl⟩ := List.getLast?_eq_some_iff.mp hl
            rcases List.mem_append.mp ha with ha | ha
            · have := (List.pairwise_append.mp h).2.2 a ha b (by simp)
              rw [this] at hba; cases hba
            · have : a = b := by simpa using ha
              subst this
              exact hc hl
      have h3 : Asc (acc ++ [x]) := List.pairwise_append.mpr ⟨h, List.pairwise_singleton _ _, fun a ha b hb => by
        have : b = x := by simpa using hb
        subst this
        exact hx a ha⟩
      obtain ⟨h1, h2⟩ := once_set xs (acc ++ [x]) h3 hs'.2 fun a ha y hy => by
        rcases List.mem_append.mp ha with ha | ha
        · exact hb a ha y (List.mem_cons_of_mem _ hy)
        · have : a = x := by simpa using ha
          subst this
          exact hs'.1 y hy
      refine ⟨h1, fun z => ?_⟩
      rw [h2, List.mem_append, List.mem_singleton, List.mem_cons, or_assoc]
theorem once_sort (l : List T) : once [] (sort l) = set l := by
  obtain ⟨h1, h2⟩ := once_set (sort l) [] List.Pairwise.nil (sort_srt l) (fun a ha => by cases ha)
  refine set_of h1 fun x => ?_
  rw [h2, mem_sort]
  simp
mutual
/-- how deep the tuples are -/
def depth : T → Nat
  | .n ts => depths ts + 1
def depths : List T → Nat
  | [] => 0
  | t :: ts => max (depth t) (depths ts)
end
theorem depth_mem {t : T} : ∀ {ts : List T}, t ∈ ts → depth t ≤ depths ts
  | [], h => by cases h
  | u :: us, h => by
    rw [depths]
    rcases List.mem_cons.mp h with rfl | h
    · exact Nat.le_max_left _ _
    · exact Nat.le_trans (depth_mem h) (Nat.le_max_right _ _)
theorem depths_le {k : Nat} : ∀ {ts : List T}, (∀ t ∈ ts, depth t ≤ k) → depths ts ≤ k
  | [], _ => by rw [depths]; exact Nat.zero_le _
  | u :: us, h => by
    rw [depths]
    exact Nat.max_le.mpr ⟨h u List.mem_cons_self, depths_le fun t ht => h t (List.mem_cons_of_mem _ ht)⟩
mutual
theorem data_depth : ∀ t : T, (data t).depth = depth t
  | .n ts => by rw [data, PyData.depth, depth, datas_depth ts]
theorem datas_depth : ∀ ts : List T, PyData.depthAll (datas ts) = depths ts
  | [] => by rw [datas, PyData.depthAll, depths]
  | t :: ts => by rw [datas, PyData.depthAll, depths, data_depth t, datas_depth ts]
end
mutual
theorem data_lay : ∀ t : T, (data t).canLay0 = true
  | .n ts => by rw [data, PyData.canLay0]; exact datas_lay ts
theorem datas_lay : ∀ ts : List T, PyData.canLayAll0 (datas ts) = true
  | [] => by rw [datas, PyData.canLayAll0]
  | t :: ts => by rw [datas, PyData.canLayAll0, data_lay t, datas_lay ts]; rfl
end
theorem data_shaped {t : T} (h : depth t ≤ 64) : SeqAt.shaped (data t) = true := by
  unfold SeqAt.shaped
  rw [data_lay, data_depth]
  simpa using h
mutual
theorem data_inj : ∀ x y : T, data x = data y → x = y
  | .n xs, .n ys, h => by
    rw [data, data] at h
    rw [datas_inj xs ys (PyData.tuple.inj h)]
theorem datas_inj : ∀ xs ys : List T, datas xs = datas ys → xs = ys
  | [], [], _ => rfl
  | [], _ :: _, h => by rw [datas, datas] at h; cases h
  | _ :: _, [], h => by rw [datas, datas] at h; cases h
  | x :: xs, y :: ys, h => by
    rw [datas, datas] at h
    injection h with h1 h2
    rw [data_inj x y h1, datas_inj xs ys h2]
end
mutual
theorem data_eqv : ∀ x y : T, PyData.eqv (data x) (data y) = decide (x = y)
  | .n xs, .n ys => by
    rw [data, data, PyData.eqv, datas_eqv xs ys]
    by_cases h : xs = ys
    · subst h; simp
    · have : ¬ T.n xs = T.n ys := fun e => h (T.n.inj e)
      rw [decide_eq_false h, decide_eq_false this]
theorem datas_eqv : ∀ xs ys : List T, PyData.eqvAll (datas xs) (datas ys) = decide (xs = ys)
  | [], [] => by simp [datas, PyData.eqvAll]
  | [], _ :: _ => by simp [datas, PyData.eqvAll]
  | _ :: _, [] => by simp [datas, PyData.eqvAll]
  | x :: xs, y :: ys => by
    rw [datas, datas, PyData.eqvAll, data_eqv x y, datas_eqv xs ys]
    by_cases h1 : x = y
    · by_cases h2 : xs = ys
      · simp [h1, h2]
      · simp [h1, h2]
    · simp [h1]
end
end T
end LM

set_option Elab.async false
set_option linter.all false
set_option maxRecDepth 100000
/-! Lm4: <, >= and sorted of tuples of tuples (T). -/
namespace LM
open PySem PySem.Spec PyProof.Rows L2 Evl
mutual
inductive IsT (h : Heap) : T → Value → Prop
  | n {a o ts k} {vs : Array Value} : h.get? a = some o → o.cls = .type "tuple" → o.data = .seq vs k → IsTs h ts vs.toList → IsT h (.n ts) (.ref a)
inductive IsTs (h : Heap) : List T → List Value → Prop
  | nil : IsTs h [] []
  | cons {t v ts vs} : IsT h t v → IsTs h ts vs → IsTs h (t :: ts) (v :: vs)
end
theorem IsTs.len {h : Heap} : ∀ {ts : List T} {vs : List Value}, IsTs h ts vs → vs.length = ts.length
  | _, _, .nil => rfl
  | _, _, .cons _ r => congrArg (· + 1) (IsTs.len r)
mutual
theorem IsT.reads {h : Heap} : ∀ (t : T) (v : Value), IsT h t v → ∃ as, Reads h v t.data as
  | .n ts, _, x => by
    cases x with
    | n h1 h2 h3 h4 =>
      obtain ⟨as, r⟩ := IsTs.reads ts _ h4
      exact ⟨as, by rw [T.data]; exact Reads.tuple h1 h2 h3 r⟩
theorem IsTs.reads {h : Heap} : ∀ (ts : List T) (vs : List Value), IsTs h ts vs → ∃ as, ReadsAll h vs (T.datas ts) as
  | [], _, x => by cases x; exact ⟨_, by rw [T.datas]; exact ReadsAll.nil⟩
  | t :: ts, _, x => by
    cases x with
    | cons h1 h2 =>
      obtain ⟨as, r1⟩ := IsT.reads t _ h1
      obtain ⟨bs, r2⟩ := IsTs.reads ts _ h2
      exact ⟨_, by rw [T.datas]; exact ReadsAll.cons r1 r2⟩
end
mutual
theorem IsT.keep {h h' : Heap} (k : ∀ b o, h.get? b = some o → o.cls = .type "tuple" → h'.get? b = some o) : ∀ (t : T) (v : Value), IsT h t v → IsT h' t v
  | .n ts, _, x => by
    cases x with
    | n h1 h2 h3 h4 => exact .n (k _ _ h1 h2) h2 h3 (IsTs.keep k ts _ h4)
theorem IsTs.keep {h h' : Heap} (k : ∀ b o, h.get? b = some o → o.cls = .type "tuple" → h'.get? b = some o) : ∀ (ts : List T) (vs : List Value), IsTs h ts vs → IsTs h' ts vs
  | [], _, x => by cases x; exact .nil
  | t :: ts, _, x => by
    cases x with
    | cons h1 h2 => exact .cons (IsT.keep k t _ h1) (IsTs.keep k ts _ h2)
end
mutual
theorem IsT.inj {h : Heap} : ∀ (t u : T) (v : Value), IsT h t v → IsT h u v → t = u
  | .n ts, _, _, x, y => by
    cases x with
    | n h1 h2 h3 h4 =>
      cases y with
      | n k1 k2 k3 k4 =>
        rw [h1] at k1; cases k1
        rw [h3] at k3; cases k3
        rw [IsTs.inj ts _ _ h4 k4]
theorem IsTs.inj {h : Heap} : ∀ (ts us : List T) (vs : List Value), IsTs h ts vs → IsTs h us vs → ts = us
  | [], _, _, x, y => by cases x; cases y; rfl
  | t :: ts, _, _, x, y => by
    cases x with
    | cons h1 h2 =>
      cases y with
      | cons k1 k2 => rw [IsT.inj t _ _ h1 k1, IsTs.inj ts _ _ h2 k2]
end
theorem IsTs.get {h : Heap} : ∀ {ts : List T} {vs : List Value} {i : Nat} (h1 : i < vs.length) (h2 : i < ts.length), IsTs h ts vs → IsT h ts[i] vs[i]
  | _, _, 0, _, _, .cons x _ => x
  | _, _, i + 1, h1, h2, .cons _ r => IsTs.get (i := i) (by simpa using h1) (by simpa using h2) r
/-- == of two of them -/
theorem eqAt_T {x y : T} {A : Around} {s : Shared} {a b : Value} (h1 : IsT s.heap x a) (h2 : IsT s.heap y b) (hu : A.units + min x.depth y.depth < cLine) : SeqAt.EqAt A s a b (decide (x = y)) := by
  obtain ⟨as, r1⟩ := h1.reads
  obtain ⟨bs, r2⟩ := h2.reads
  have q := SeqAt.eqAt_reads x.data y.data A s a b as bs r1 r2 (T.data_lay x) (T.data_lay y) (by rw [T.data_depth, T.data_depth]; exact hu)
  rwa [T.data_eqv] at q
/-- the first place whose items differ -/
theorem lex_lts : ∀ (xs ys : List T) (e r : Nat → Bool) (i : Nat), (∀ j (h1 : j < xs.length) (h2 : j < ys.length), e (i + j) = decide (xs[j] = ys[j]) ∧ r (i + j) = T.lt xs[j] ys[j]) →
    Ob.lexAt e r (decide (xs.length < ys.length)) i (min xs.length ys.length) = T.lts xs ys
  | [], [], _, _, _, _ => by simp [Ob.lexAt, T.lts, T.cmps]
  | [], _ :: _, _, _, _, _ => by simp [Ob.lexAt, T.lts, T.cmps]
  | _ :: _, [], _, _, _, _ => by simp [Ob.lexAt, T.lts, T.cmps]
  | x :: xs, y :: ys, e, r, i, h => by
    have e1 : min (x :: xs).length (y :: ys).length = min xs.length ys.length + 1 := by simp only [List.length_cons]; omega
    have e2 : decide ((x :: xs).length < (y :: ys).length) = decide (xs.length < ys.length) := by simp
    obtain ⟨h0, h0'⟩ := h 0 (by simp) (by simp)
    rw [e1, e2, Ob.lexAt_succ]
    have ih := lex_lts xs ys e r (i + 1) fun j h1 h2 => by
      have q := h (j + 1) (by simpa using h1) (by simpa using h2)
      have z : i + 1 + j = i + (j + 1) := by omega
      rw [z]
      simpa using q
    simp only [Nat.add_zero, List.getElem_cons_zero] at h0 h0'
    rw [h0, h0', ih]
    unfold T.lts T.lt
    rw [T.cmps]
    by_cases q : x = y
    · subst q; rw [T.cmp_self]; simp
    · have : T.cmp x y ≠ .eq := fun z => q (T.eq_of_cmp x y z)
      rw [decide_eq_false q]
      cases z : T.cmp x y
      · simp
      · exact absurd z this
      · simp
theorem lex_ges : ∀ (xs ys : List T) (e r : Nat → Bool) (i : Nat), (∀ j (h1 : j < xs.length) (h2 : j < ys.length), e (i + j) = decide (xs[j] = ys[j]) ∧ r (i + j) = !T.lt xs[j] ys[j]) →
    Ob.lexAt e r (decide (xs.length ≥ ys.length)) i (min xs.length ys.length) = !T.lts xs ys
  | [], [], _, _, _, _ => by simp [Ob.lexAt, T.lts, T.cmps]
  | [], _ :: _, _, _, _, _ => by simp [Ob.lexAt, T.lts, T.cmps]
  | _ :: _, [], _, _, _, _ => by simp [Ob.lexAt, T.lts, T.cmps]
  | x :: xs, y :: ys, e, r, i, h => by
    have e1 : min (x :: xs).length (y :: ys).length = min xs.length ys.length + 1 := by simp only [List.length_cons]; omega
    have e2 : decide ((x :: xs).length ≥ (y :: ys).length) = decide (xs.length ≥ ys.length) := by simp
    obtain ⟨h0, h0'⟩ := h 0 (by simp) (by simp)
    rw [e1, e2, Ob.lexAt_succ]
    have ih := lex_ges xs ys e r (i + 1) fun j h1 h2 => by
      have q := h (j + 1) (by simpa using h1) (by simpa using h2)
      have z : i + 1 + j = i + (j + 1) := by omega
      rw [z]
      simpa using q
    simp only [Nat.add_zero, List.getElem_cons_zero] at h0 h0'
    rw [h0, h0', ih]
    unfold T.lts T.lt
    rw [T.cmps]
    by_cases q : x = y
    · subst q; rw [T.cmp_self]; simp
    · have : T.cmp x y ≠ .eq := fun z => q (T.eq_of_cmp x y z)
      rw [decide_eq_false q]
      cases z : T.cmp x y
      · simp
      · exact absurd z this
      · simp
theorem min_in {u a b : Nat} (h : u + min (a + 1) (b + 1) < cLine) : u + 1 + min a b < cLine := SeqAt.room_in h
theorem min_mono {u a b c d : Nat} (h : u + min a b < cLine) (h1 : c ≤ a) (h2 : d ≤ b) : u + min c d < cLine := by
  have : min c d ≤ min a b := Nat.le_min.mpr ⟨Nat.le_trans (Nat.min_le_left _ _) h1, Nat.le_trans (Nat.min_le_right _ _) h2⟩
  omega
mutual
theorem rcLt_T : ∀ (x y : T) (A : Around) (s : Shared) (a b : Value), IsT s.heap x a → IsT s.heap y b → A.units + min x.depth y.depth < cLine → Ob.RcOp .Lt A s a b (T.lt x y)
  | .n xs, .n ys, A, s, _, _, h1, h2, hu => by
    cases h1 with
    | @n a o _ k vs a1 a2 a3 a4 =>
      cases h2 with
      | @n b o' _ k' ws b1 b2 b3 b4 =>
        have n1 := a4.len
        have n2 := b4.len
        simp only [Array.length_toList] at n1 n2
        rw [T.depth, T.depth] at hu
        have hlt : T.lt (.n xs) (.n ys) = T.lts xs ys := by unfold T.lt T.lts; rw [T.cmp]
        rw [hlt, ← lex_lts xs ys (fun j => decide (xs.getD j (.n []) = ys.getD j (.n []))) (fun j => T.lt (xs.getD j (.n [])) (ys.getD j (.n []))) 0 (fun j h1 h2 => by
          simp [List.getD_eq_getElem?_getD, List.getElem?_eq_getElem h1, List.getElem?_eq_getElem h2]), ← n1, ← n2]
        have hu1 : A.units < cLine := by omega
        refine Ob.RcOp.tuples_lt ⟨_, a1, a2, _, a3⟩ ⟨_, b1, b2, _, b3⟩ hu1 (fun j j1 j2 => ?_) (fun j j1 j2 _ => ?_)
        · have x1 : j < xs.length := by omega
          have x2 : j < ys.length := by omega
          have q := eqAt_T (A := A.in1) (a4.get (by simpa using j1) x1) (b4.get (by simpa using j2) x2) (min_mono (min_in hu) (T.depth_mem (List.getElem_mem x1)) (T.depth_mem (List.getElem_mem x2)))
          simp only [List.getD_eq_getElem?_getD, List.getElem?_eq_getElem x1, List.getElem?_eq_getElem x2, Option.getD_some]
          simpa using q
        · have x1 : j < xs.length := by omega
          have x2 : j < ys.length := by omega
          have q := rcLt_Ts xs ys A.in1 s vs.toList ws.toList a4 b4 (min_in hu) j (by simpa using j1) (by simpa using j2) x1 x2
          simp only [List.getD_eq_getElem?_getD, List.getElem?_eq_getElem x1, List.getElem?_eq_getElem x2, Option.getD_some]
          simpa using q
theorem rcLt_Ts : ∀ (xs ys : List T) (A : Around) (s : Shared) (vs ws : List Value), IsTs s.heap xs vs → IsTs s.heap ys ws → A.units + min (T.depths xs) (T.depths ys) < cLine →
    ∀ j (h1 : j < vs.length) (h2 : j < ws.length) (x1 : j < xs.length) (x2 : j < ys.length), Ob.RcOp .Lt A s vs[j] ws[j] (T.lt xs[j] ys[j])
  | [], _, _, _, _, _, _, _, _, j, _, _, x1, _ => absurd x1 (Nat.not_lt_zero _)
  | _ :: _, [], _, _, _, _, _, _, _, j, _, _, _, x2 => absurd x2 (Nat.not_lt_zero _)
  | x :: xs, y :: ys, A, s, _, _, ra, rb, hu, j, h1, h2, x1, x2 => by
    cases ra with
    | cons r rs =>
      cases rb with
      | cons r' rs' =>
        rw [T.depths, T.depths] at hu
        cases j with
        | zero => exact rcLt_T x y A s _ _ r r' (SeqAt.room_head hu)
        | succ j => exact rcLt_Ts xs ys A s _ _ rs rs' (SeqAt.room_tail hu) j (Nat.lt_of_succ_lt_succ h1) (Nat.lt_of_succ_lt_succ h2) (Nat.lt_of_succ_lt_succ x1) (Nat.lt_of_succ_lt_succ x2)
end
mutual
theorem rcGe_T : ∀ (x y : T) (A : Around) (s : Shared) (a b : Value), IsT s.heap x a → IsT s.heap y b → A.units + min x.depth y.depth < cLine → Ob.RcOp .GtE A s a b (!T.lt x y)
  | .n xs, .n ys, A, s, _, _, h1, h2, hu => by
    cases h1 with
    | @n a o _ k vs a1 a2 a3 a4 =>
      cases h2 with
      | @n b o' _ k' ws b1 b2 b3 b4 =>
        have n1 := a4.len
        have n2 := b4.len
        simp only [Array.length_toList] at n1 n2
        rw [T.depth, T.depth] at hu
        have hlt : T.lt (.n xs) (.n ys) = T.lts xs ys := by unfold T.lt T.lts; rw [T.cmp]
        rw [hlt, ← lex_ges xs ys (fun j => decide (xs.getD j (.n []) = ys.getD j (.n []))) (fun j => !T.lt (xs.getD j (.n [])) (ys.getD j (.n []))) 0 (fun j h1 h2 => by
          simp [List.getD_eq_getElem?_getD, List.getElem?_eq_getElem h1, List.getElem?_eq_getElem h2]), ← n1, ← n2]
        have hu1 : A.units < cLine := by omega
        refine Ob.RcOp.tuples_ge ⟨_, a1, a2, _, a3⟩ ⟨_, b1, b2, _, b3⟩ hu1 (fun j j1 j2 => ?_) (fun j j1 j2 _ => ?_)
        · have x1 : j < xs.length := by omega
          have x2 : j < ys.length := by omega
          have q := eqAt_T (A := A.in1) (a4.get (by simpa using j1) x1) (b4.get (by simpa using j2) x2) (min_mono (min_in hu) (T.depth_mem (List.getElem_mem x1)) (T.depth_mem (List.getElem_mem x2)))
          simp only [List.getD_eq_getElem?_getD, List.getElem?_eq_getElem x1, List.getElem?_eq_getElem x2, Option.getD_some]
          simpa using q
        · have x1 : j < xs.length := by omega
          have x2 : j < ys.length := by omega
          have q := rcGe_Ts xs ys A.in1 s vs.toList ws.toList a4 b4 (min_in hu) j (by simpa using j1) (by simpa using j2) x1 x2
          simp only [List.getD_eq_getElem?_getD, List.getElem?_eq_getElem x1, List.getElem?_eq_getElem x2, Option.getD_some]
          simpa using q
theorem rcGe_Ts : ∀ (xs ys : List T) (A : Around) (s : Shared) (vs ws : List Value), IsTs s.heap xs vs → IsTs s.heap ys ws → A.units + min (T.depths xs) (T.depths ys) < cLine →
    ∀ j (h1 : j < vs.length) (h2 : j < ws.length) (x1 : j < xs.length) (x2 : j < ys.length), Ob.RcOp .GtE A s vs[j] ws[j] (!T.lt xs[j] ys[j])
  | [], _, _, _, _, _, _, _, _, j, _, _, x1, _ => absurd x1 (Nat.not_lt_zero _)
  | _ :: _, [], _, _, _, _, _, _, _, j, _, _, _, x2 => absurd x2 (Nat.not_lt_zero _)
  | x :: xs, y :: ys, A, s, _, _, ra, rb, hu, j, h1, h2, x1, x2 => by
    cases ra with
    | cons r rs =>
      cases rb with
      | cons r' rs' =>
        rw [T.depths, T.depths] at hu
        cases j with
        | zero => exact rcGe_T x y A s _ _ r r' (SeqAt.room_head hu)
        | succ j => exact rcGe_Ts xs ys A s _ _ rs rs' (SeqAt.room_tail hu) j (Nat.lt_of_succ_lt_succ h1) (Nat.lt_of_succ_lt_succ h2) (Nat.lt_of_succ_lt_succ x1) (Nat.lt_of_succ_lt_succ x2)
end

/-! ### from the layer's values -/
section
variable {X : Cx} {pins : List (Addr × Obj)} {σ : L2.St} {H : Hp} {s : Shared}
mutual
theorem isT_of (I : Inv X pins σ H s) : ∀ (t : T) (v : V) (u : Value), Dp X.K H v t.data → RelV v u → IsT s.heap t u
  | .n ts, _, _, h, r => by
    rw [T.data] at h
    cases h with
    | tup hs ha =>
      cases r
      obtain ⟨its, rv, ⟨o, ho, hc, n, hd⟩, _⟩ := I.tuple hs
      exact .n ho hc hd (isTs_of I ts _ its ha rv)
theorem isTs_of (I : Inv X pins σ H s) : ∀ (ts : List T) (vs : List V) (us : List Value), DpAll X.K H vs (T.datas ts) → Vals vs us → IsTs s.heap ts us
  | [], _, _, h, r => by
    rw [T.datas] at h
    cases h
    cases r
    exact .nil
  | t :: ts, _, _, h, r => by
    rw [T.datas] at h
    cases h with
    | cons h1 h2 =>
      cases r with
      | cons r1 r2 => exact .cons (isT_of I t _ _ h1 r1) (isTs_of I ts _ _ h2 r2)
end
end
section
variable {X : Cx}
def rLtTr (K : PySem.W.Frag) : R2 := fun x y H Q => ∃ s t : T, Dp K H x s.data ∧ Dp K H y t.data ∧ min s.depth t.depth ≤ 60 ∧ Q (.bl (T.lt s t)) H
def rGeTr (K : PySem.W.Frag) : R2 := fun x y H Q => ∃ s t : T, Dp K H x s.data ∧ Dp K H y t.data ∧ min s.depth t.depth ≤ 60 ∧ Q (.bl (!T.lt s t)) H
theorem op_ltTr (hu : X.A.units + 64 < cLine) : OpR X (compareOp .Lt) (rLtTr X.K) := by
  intro pins s σ H x y v u Q I rx ry h
  obtain ⟨t1, t2, d1, d2, hd, q⟩ := h
  have R := rcLt_T t1 t2 X.A s v u (isT_of I t1 x v d1 rx) (isT_of I t2 y u d2 ry) (by omega)
  have z : wpAny (model X.prog X.w) X.A (compareOp .Lt v u) (EP X pins σ Q) X.xe s := R X.prog X.w X.xe (EP X pins σ Q) ⟨.bl _, H, I, rfl, q⟩
  exact z
theorem op_geTr (hu : X.A.units + 64 < cLine) : OpR X (compareOp .GtE) (rGeTr X.K) := by
  intro pins s σ H x y v u Q I rx ry h
  obtain ⟨t1, t2, d1, d2, hd, q⟩ := h
  have R := rcGe_T t1 t2 X.A s v u (isT_of I t1 x v d1 rx) (isT_of I t2 y u d2 ry) (by omega)
  have z : wpAny (model X.prog X.w) X.A (compareOp .GtE v u) (EP X pins σ Q) X.xe s := R X.prog X.w X.xe (EP X pins σ Q) ⟨.bl _, H, I, rfl, q⟩
  exact z
end
section
variable {K : PySem.W.Frag}
theorem rd_ltTr {s t : T} (h : min s.depth t.depth ≤ 60) : RD K (rLtTr K) s.data t.data (.bool (T.lt s t)) := fun H Hm x y e hx hy Q q => ⟨s, t, hx.mono e, hy.mono e, h, q _ H Hm (Gr.refl e) (.bl _)⟩
theorem rd_geTr {s t : T} (h : min s.depth t.depth ≤ 60) : RD K (rGeTr K) s.data t.data (.bool (!T.lt s t)) := fun H Hm x y e hx hy Q q => ⟨s, t, hx.mono e, hy.mono e, h, q _ H Hm (Gr.refl e) (.bl _)⟩
end

/-! ### sorted -/
open Classical in
noncomputable def tOf (h : Heap) (v : Value) : T := if x : ∃ t, IsT h t v then x.choose else .n []
theorem tOf_eq {h : Heap} {t : T} {v : Value} (x : IsT h t v) : tOf h v = t := by
  unfold tOf
  rw [dif_pos ⟨t, x⟩]
  exact IsT.inj _ _ _ (Exists.choose_spec (⟨t, x⟩ : ∃ t, IsT h t v)) x
section
variable {prog : Program} {w : World} {A : Around} {E : Value → Shared → Prop} {s : Shared}
theorem kat_T {Q : Bool → Shared → Prop} {fin : Bool} : ∀ (xs ys : List T) (us ws : List Value) (i : Nat), IsTs s.heap xs us → IsTs s.heap ys ws → A.units + min (T.depths xs) (T.depths ys) < cLine → fin = decide (us.length < ws.length) → Q (T.lts xs ys) s →
    PySem.W.KatLex prog w A false fin Q (us.zip ws) i s
  | [], [], _, _, i, h1, h2, _, hf, q => by
    cases h1; cases h2
    rw [hf]
    exact PySem.W.kat_nil (by simpa [T.lts, T.cmps] using q)
  | [], _ :: _, _, _, i, h1, h2, _, hf, q => by
    cases h1; cases h2
    rw [hf]
    exact PySem.W.kat_nil (by simpa [T.lts, T.cmps] using q)
  | _ :: _, [], _, _, i, h1, h2, _, hf, q => by
    cases h1; cases h2
    rw [hf]
    exact PySem.W.kat_nil (by simpa [T.lts, T.cmps] using q)
  | x :: xs, y :: ys, _, _, i, h1, h2, hu, hf, q => by
    cases h1 with
    | cons a1 a2 =>
      cases h2 with
      | cons b1 b2 =>
        rw [T.depths, T.depths] at hu
        refine PySem.W.kat_cons (eqAt_T a1 b1 (SeqAt.room_head hu) prog w _ _ ?_)
        refine PySem.W.kat_go (fun e => ?_) (fun e => ?_)
        · have exy : x = y := by simpa using e
          subst exy
          refine PySem.W.kat_yes (kat_T xs ys _ _ (i + 1) a2 b2 (SeqAt.room_tail hu) (by rw [hf]; simp) ?_)
          have : T.lts (x :: xs) (x :: ys) = T.lts xs ys := by unfold T.lts; rw [T.cmps, T.cmp_self]
          rw [← this]; exact q
        · have nxy : x ≠ y := by simpa using e
          refine PySem.W.kat_no (PySem.W.kat_one _ _ ?_)
          have : T.lts (x :: xs) (y :: ys) = T.lt x y := by
            unfold T.lts T.lt
            rw [T.cmps]
            cases z : T.cmp x y
            · rfl
            · exact absurd (T.eq_of_cmp x y z) nxy
            · rfl
          have R := rcLt_T x y A s _ _ a1 b1 (SeqAt.room_head hu)
          have z : wpAny (model prog w) A (compareOp .Lt _ _) (PySem.W.BoolBack Q) (fun _ _ => False) s := R prog w _ _ (show Q (T.lt x y) s by rw [← this]; exact q)
          exact z
theorem swo_T (h : Heap) : SrtO.Swo fun v u => T.lt (tOf h v) (tOf h u) := ⟨fun x y e => T.lt_asym e, fun x y z h1 h2 => T.nlt_trans h1 h2⟩
/-- games, and whatever tuples are not empty -/
def full : T → Bool
  | .n [] => false
  | .n (_ :: _) => true
theorem firsts_T {h : Heap} : ∀ {ts : List T} {vs : List Value}, IsTs h ts vs → (∀ t ∈ ts, full t = true) → ∃ fs : List Value, PySem.W.KatTups h vs fs ∧ fs.length = vs.length ∧ ∀ f ∈ fs, ∃ a o, f = Value.ref a ∧ h.get? a = some o ∧ o.cls = .type "tuple"
  | _, _, .nil, _ => ⟨[], PySem.W.KatTups.nil, rfl, fun _ hm => by simp at hm⟩
  | t :: ts, v :: vs, .cons x r, hf => by
    obtain ⟨fs, h1, h2, h3⟩ := firsts_T r fun t ht => hf t (List.mem_cons_of_mem _ ht)
    have hft := hf t List.mem_cons_self
    cases x with
    | @n a o us k ws ho hc hd ha =>
      cases us with
      | nil => simp [full] at hft
      | cons u us =>
        generalize e : ws.toList = wl at ha
        cases ha with
        | @cons _ f _ wr hu hr =>
          have hf0 : ws[0]? = some f := by rw [← Array.getElem?_toList, e]; rfl
          refine ⟨f :: fs, PySem.W.KatTups.cons ho hc hd hf0 h1, by rw [List.length_cons, List.length_cons, h2], fun g hg => ?_⟩
          rcases List.mem_cons.mp hg with rfl | hg
          · cases hu with
            | n k1 k2 k3 k4 => exact ⟨_, _, rfl, k1, k2⟩
          · exact h3 g hg
theorem isTs_all {h : Heap} : ∀ {ts : List T} {vs : List Value}, IsTs h ts vs → ∀ v ∈ vs, ∃ t ∈ ts, IsT h t v
  | _, _, .nil, v, hv => by simp at hv
  | _, _, .cons x r, v, hv => by
    rcases List.mem_cons.mp hv with rfl | hv
    · exact ⟨_, List.mem_cons_self, x⟩
    · obtain ⟨t, h1, h2⟩ := isTs_all r v hv
      exact ⟨t, List.mem_cons_of_mem _ h1, h2⟩
theorem sortable_T {a : Addr} {ts : List T} {vs : List Value} (h0 : 0 < vs.length) (x : IsTs s.heap ts vs) (hf : ∀ t ∈ ts, full t = true) (hd : T.depths ts ≤ 60) (hu : A.units + 62 < cLine) (g : Heap) (hg : ∀ v ∈ vs, tOf g v = tOf s.heap v) (ha : ∀ o, s.heap.get? a = some o → o.cls ≠ .type "tuple") :
    SrtO.SortableO prog w A s a vs fun v u => T.lt (tOf g v) (tOf g u) := by
  intro h' keep
  have keep' : ∀ b o, s.heap.get? b = some o → o.cls = .type "tuple" → h'.get? b = some o := fun b o e c => keep b o (fun z => by subst z; exact ha o e c) e
  have x' : IsTs h' ts vs := x.keep keep' ts vs
  obtain ⟨fs, h1, h2, h3⟩ := firsts_T x' hf
  refine ⟨tuples' false, fun Q E hq => ?_, fun p q hp hq => ?_⟩
  · refine PySem.W.kat_kind (T := .type "tuple") h1 (by omega) (fun f hm => ?_) (by rfl) ?_
    · obtain ⟨b, o, rfl, ho, hc⟩ := h3 f hm
      rw [← hc]
      exact (show PySem.W.Looks (model prog w) h' (typeOf (.ref b)) o.cls from (PySem.W.Looks.ld ho).andThen .now)
    · have e : (Value.type "tuple" != Value.type "tuple") = false := by first | decide +kernel | rfl | decide
      rw [e]
      exact hq
  · obtain ⟨t1, m1, y1⟩ := isTs_all x' _ hp
    obtain ⟨t2, m2, y2⟩ := isTs_all x' _ hq
    obtain ⟨t1', _, z1⟩ := isTs_all x _ hp
    obtain ⟨t2', _, z2⟩ := isTs_all x _ hq
    have e1 : tOf g p.1 = t1 := by rw [hg _ hp, tOf_eq z1]; exact IsT.inj _ _ _ (z1.keep keep' _ _) y1
    have e2 : tOf g q.1 = t2 := by rw [hg _ hq, tOf_eq z2]; exact IsT.inj _ _ _ (z2.keep keep' _ _) y2
    have d1 := T.depth_mem m1
    have d2 := T.depth_mem m2
    show wpAny (model prog w) A (keyLt' (tuples' false) p.1 q.1) (fun r s' => s' = { s with heap := h' } ∧ r = T.lt (tOf g p.1) (tOf g q.1)) (fun _ _ => False) { s with heap := h' }
    rw [e1, e2]
    generalize p.1 = pv at y1
    generalize q.1 = qv at y2
    cases y1 with
    | @n pa po pts pk pvs p1 p2 p3 p4 =>
      cases y2 with
      | @n qa qo qts qk qvs q1 q2 q3 q4 =>
        rw [T.depth] at d1 d2
        refine PySem.W.kat_lt p1 p3 q1 q3 ?_
        refine kat_T (s := { s with heap := h' }) pts qts _ _ 0 p4 q4 (by have := Nat.min_le_left (T.depths pts) (T.depths qts); omega) (by simp) ⟨rfl, ?_⟩
        unfold T.lts T.lt
        rw [T.cmp]
end
end LM

set_option Elab.async false
set_option linter.all false
set_option maxRecDepth 100000
/-! Lm5: sorted(a list of T). -/
namespace LM
open PySem PySem.Spec PyProof.Rows L2 Evl
theorem hu100 {A : Around} {k : Nat} (hr : Room k A) : A.units + 100 < cLine := by have := hr.un; omega
theorem hu64 {A : Around} {k : Nat} (hr : Room k A) : A.units + 64 < cLine := by have := hr.un; omega
def rSortTr (K : PySem.W.Frag) : List V → Hp → VK → Prop := fun vs H Q => ∃ (a : Addr) (xs : List V) (ts : List T), vs = [.ref a] ∧ SqL K H a xs ∧ DpAll K H xs (ts.map T.data) ∧ (∀ t ∈ ts, full t = true) ∧ T.depths ts ≤ 60 ∧
  ∀ ys p, H p = none → (∀ Hm, Ex Hm H → DpAll K Hm xs (ts.map T.data) → DpAll K Hm ys ((T.sort ts).map T.data)) → Q (.ref p) (upd H p (.lst ys))
theorem dpT_ref {K : PySem.W.Frag} {H : Hp} {v : V} {t : T} (h : Dp K H v t.data) : ∃ a, v = .ref a := by
  cases t with
  | n ts =>
    rw [T.data] at h
    obtain ⟨a, _, e, _⟩ := dp_tup h
    exact ⟨a, e⟩
theorem dpsT_all {K : PySem.W.Frag} {H : Hp} : ∀ {vs : List V} {ts : List T}, DpAll K H vs (ts.map T.data) → ∀ v ∈ vs, ∃ t ∈ ts, Dp K H v t.data
  | _, [], h, v, hv => by cases h; simp at hv
  | _, t :: ts, h, v, hv => by
    rw [List.map_cons] at h
    cases h with
    | cons h1 h2 =>
      rcases List.mem_cons.mp hv with rfl | hv
      · exact ⟨t, List.mem_cons_self, h1⟩
      · obtain ⟨u, hu, d⟩ := dpsT_all h2 v hv
        exact ⟨u, List.mem_cons_of_mem _ hu, d⟩
theorem dps_map {K : PySem.W.Frag} {H : Hp} {α : Type} {f : α → V} {g : α → D} : ∀ {l : List α}, (∀ x ∈ l, Dp K H (f x) (g x)) → DpAll K H (l.map f) (l.map g)
  | [], _ => .nil
  | x :: l, h => .cons (h x List.mem_cons_self) (dps_map fun y hy => h y (List.mem_cons_of_mem _ hy))
theorem tOfs {h : Heap} : ∀ {ts : List T} {vs : List Value}, IsTs h ts vs → vs.map (tOf h) = ts
  | _, _, .nil => rfl
  | _, _, .cons x r => by rw [List.map_cons, tOf_eq x, tOfs r]
section
variable {X : Cx}
theorem back_rel {v : Value} {x : V} {a : Addr} (r : RelV x v) (e : x = .ref a) : v = .ref a ∧ backV v = x := by
  subst e
  cases r
  exact ⟨rfl, rfl⟩
/-- what sorted leaves, told by data -/
theorem sorted_out {pins : List (Addr × Obj)} {σ : L2.St} {H : Hp} {s : Shared} {xs : List V} {its out : List Value} {ts : List T} (I : Inv X pins σ H s) (hd : DpAll X.K H xs (ts.map T.data)) (rv : Vals xs its)
    (h1 : SrtO.Srtd (fun v u => T.lt (tOf s.heap v) (tOf s.heap u)) out) (h2 : out.Perm its) : Vals (out.map backV) out ∧ ∀ Hm, Ex Hm H → DpAll X.K Hm xs (ts.map T.data) → DpAll X.K Hm (out.map backV) ((T.sort ts).map T.data) := by
  have x : IsTs s.heap ts its := isTs_of I ts xs its (by rw [T.datas_eq]; exact hd) rv
  obtain ⟨e1, e2⟩ := refs_back rv fun v hv => by
    obtain ⟨t, _, d⟩ := dpsT_all hd v hv
    exact dpT_ref d
  have hr : ∀ u ∈ out, ∃ a, u = Value.ref a := fun u hu => e2 u (h2.mem_iff.mp hu)
  refine ⟨vals_back hr, fun Hm em hdm => ?_⟩
  have hs : T.Srt (out.map (tOf s.heap)) := List.pairwise_map.mpr (h1.imp fun {a b} h => h)
  have hp : (out.map (tOf s.heap)).Perm ts := by
    have := h2.map (tOf s.heap)
    rwa [tOfs x] at this
  rw [← T.sort_of hs hp, List.map_map]
  refine dps_map fun u hu => ?_
  have hm := h2.mem_iff.mp hu
  have hx : backV u ∈ xs := by rw [e1]; exact List.mem_map.mpr ⟨u, hm, rfl⟩
  obtain ⟨t, ht, d⟩ := dpsT_all hdm _ hx
  obtain ⟨a, rfl⟩ := hr u hu
  have y := isT_of I t _ _ (d.mono em) (show RelV (.ref a) (.ref a) from rfl)
  show Dp X.K Hm _ (T.data (tOf s.heap _))
  rw [tOf_eq y]
  exact d
theorem cr_sortedTr (hu : X.A.units + 100 < cLine) : CallR X (.builtin "sorted") (rSortTr X.K) := by
  intro pins s σ H vs us Q I r h
  obtain ⟨a, xs, ts, rfl, hs, hd, hf, hdep, q⟩ := h
  obtain ⟨its, rv, hl, hz⟩ := I.list hs
  obtain ⟨u, rfl, ru⟩ := vals1 r
  obtain rfl : u = Value.ref a := ru
  have x : IsTs s.heap ts its := isTs_of I ts xs its (by rw [T.datas_eq]; exact hd) rv
  have hzi : its.length ≤ sizeLine := by rw [← rv.length]; exact hz
  refine SrtO.sorted_ord (swo_T s.heap) hl.isList hzi (fun h2 h₁ b hb kk => ?_) fun out h1 h2 => ?_
  · refine sortable_T (s := { s with heap := h₁ }) (by omega) (x.keep (fun c o e _ => (kk c o e).2) ts its) hf hdep (by show X.A.units + 1 + 1 + 62 < cLine; omega) s.heap (fun v hv => ?_) fun o e => ?_
    · obtain ⟨t, _, y⟩ := isTs_all x v hv
      rw [tOf_eq y]
      exact (tOf_eq (y.keep (fun c o e _ => (kk c o e).2) _ _)).symm
    · have e' : some o = some (seqObj "list" its.toArray 0) := e.symm.trans hb
      cases e'
      intro c
      exact absurd (Value.type.inj c) (by decide)
  · obtain ⟨v1, d1⟩ := sorted_out I hd rv h1 h2.perm
    obtain ⟨n, hn⟩ := sortedAll_at s.heap its out.toArray
    have hdz : s.heap.objs.size ≤ s.heap.objs.size + 1 := Nat.le_succ _
    refine ⟨.ref (s.heap.objs.size + 1), upd H _ (.lst (out.map backV)), I.laid (t' := s.toks) (fun b o e => sortedAll_old e) hdz ⟨?_, out, n, v1, hn⟩, rfl, q _ _ (I.hok.fresh hdz) d1⟩
    rw [List.length_map, h2.len]
    exact hzi
end
section
variable {K : PySem.W.Frag}
theorem cl_sortedTr {ts : List T} (hf : ∀ t ∈ ts, full t = true) (hd : T.depths ts ≤ 60) : CL K (rSortTr K) [.list (ts.map T.data)] ((T.sort ts).map T.data) := fun H Hm xs s hx Q q => by
  obtain ⟨v, rfl, h⟩ := dps1 hx
  obtain ⟨a, ys, rfl, hs, ha⟩ := dp_lst h
  refine ⟨a, ys, ts, rfl, ex_l s hs, ha.mono s, hf, hd, fun zs p hp hz => ?_⟩
  exact q p zs _ Hm (Gr.priv s hp) hp (fresh_back s hp) upd_same (hz Hm s ha)
end
end LM

set_option Elab.async false
set_option linter.all false
set_option maxRecDepth 100000
set_option maxHeartbeats 3200000
/-! LmS: sets of trees (tuples of tuples of unlike shape, of depth at most 8): set(..), sorted(set). -/
namespace LM
open PySem PySem.Spec PyProof.Rows L2 Evl

/-! ### a tree as a key -/
mutual
def nk : T → NestedKey
  | .n ts => .tup (nks ts)
def nks : List T → List NestedKey
  | [] => []
  | t :: ts => nk t :: nks ts
end
mutual
theorem nk_depth : ∀ t : T, (nk t).depth = t.depth
  | .n ts => by rw [nk, NestedKey.depth, T.depth, nks_depth ts]
theorem nks_depth : ∀ ts : List T, NestedKey.depthAll (nks ts) = T.depths ts
  | [] => by rw [nks, NestedKey.depthAll, T.depths]
  | t :: ts => by rw [nks, NestedKey.depthAll, T.depths, nk_depth t, nks_depth ts]
end
mutual
theorem nk_is {h : Heap} : ∀ (t : T) (v : Value), IsT h t v → NestedIs h (nk t) v
  | .n ts, _, x => by
    cases x with
    | n h1 h2 h3 h4 => rw [nk]; exact .tup h1 h2 h3 (nks_is ts _ h4)
theorem nks_is {h : Heap} : ∀ (ts : List T) (vs : List Value), IsTs h ts vs → NestedAll h (nks ts) vs
  | [], _, x => by cases x; exact .nil
  | t :: ts, _, x => by
    cases x with
    | cons h1 h2 => rw [nks]; exact .cons (nk_is t _ h1) (nks_is ts _ h2)
end
/-- hash(t) -/
def hT (w : World) (t : T) : Int := (nk t).hash w

section
variable {P : Program} {w : World} {A : Around} {E : Value → Shared → Prop} {s : Shared}
theorem isT_ref {h : Heap} {t : T} {v : Value} (x : IsT h t v) : ∃ b, v = .ref b := by cases x; exact ⟨_, rfl⟩
theorem isT_ty {s : Shared} {t : T} {b : Addr} (x : IsT s.heap t (.ref b)) : s.TypeIs (.ref b) "tuple" := by
  cases x with
  | n h1 h2 _ _ => exact ⟨_, h1, h2⟩
/-! ### what a set asks of its elements -/
/-- a walk over the items of a tuple that stops at nothing -/
theorem forAll {β : Type} {g : β → Prop} {f : Value → β → Sem (ForInStep β)} {ok : Value → Prop} (hf : ∀ v (Q : ForInStep β → Shared → Prop), ok v → (∀ r : β, g r → Q (.yield r) s) → ∀ r0 : β, g r0 → wpAny (model P w) A (f v r0) Q E s) {vs : List Value} (h : ∀ v ∈ vs, ok v) {Q : β → Shared → Prop}
    (q : ∀ r : β, g r → Q r s) {r0 : β} (h0 : g r0) : wpAny (model P w) A (forIn vs r0 f) Q E s := by
  refine wpAny_forIn_list _ (fun rest r s' => g r ∧ s' = s ∧ ∀ v ∈ rest, ok v) _ ?_ ?_ _ _ ⟨h0, rfl, h⟩
  · rintro v rest r s' ⟨hr, e, ha⟩
    subst e
    exact hf v _ (ha v List.mem_cons_self) (fun r' hr' => ⟨hr', rfl, fun u hu => ha u (List.mem_cons_of_mem _ hu)⟩) r hr
  · rintro r s' ⟨hr, e, _⟩
    subst e
    exact q r hr
theorem class_T : ∀ (n : Nat) (t : T) (v : Value) (Q : Bool → Shared → Prop), IsT s.heap t v → t.depth ≤ n → Q false s → wpAny (model P w) A (ofAClassStatement n v) Q E s
  | 0, .n ts, _, _, _, hd, _ => by rw [T.depth] at hd; omega
  | n + 1, .n ts, v, Q, x, hd, q => by
    obtain ⟨b, rfl⟩ := isT_ref x
    have ty := isT_ty x
    cases x with
    | n h1 h2 h3 h4 =>
      unfold ofAClassStatement
      refine wpAny_bind (wpAny_typeOf ty ?_)
      dsimp only
      have e : (("tuple" : String) == "tuple") = true := by decide
      simp only [e, if_true, Bool.not_true, Bool.false_eq_true, if_false]
      try refine wpAny_bind (wpAny_pure ?_)
      try simp only [Bool.not_true, Bool.false_eq_true, if_false]
      show wpAny _ _ (seqItems? (.ref b) >>= _) _ _ s
      refine wpAny_bind (wpAny_seqItems h1 h3 ?_)
      dsimp only
      refine wpAny_bind ?_
      show wpAny _ _ (forIn _ _ _) _ _ s
      rw [← Array.forIn_toList]
      refine forAll (g := fun r => r.1 = none) (ok := fun v => ∃ t ∈ ts, IsT s.heap t v) (fun v Q ⟨t, ht, y⟩ k r0 _ => ?_) (fun v hv => isTs_all h4 v hv) (fun r hr => ?_) rfl
      · refine wpAny_bind (class_T n t v _ y ?_ ?_)
        · have := T.depth_mem ht
          rw [T.depth] at hd; omega
        · simp only [Bool.false_eq_true, if_false]
          exact wpAny_pure (k _ rfl)
      · obtain ⟨r1, r2⟩ := r
        simp only at hr
        subst hr
        exact wpAny_pure q
theorem byval_T : ∀ (n : Nat) (t : T) (v : Value) (Q : Bool → Shared → Prop), IsT s.heap t v → t.depth ≤ n → Q true s → wpAny (model P w) A (hashByValue n v) Q E s
  | 0, .n ts, _, _, _, hd, _ => by rw [T.depth] at hd; omega
  | n + 1, .n ts, v, Q, x, hd, q => by
    obtain ⟨b, rfl⟩ := isT_ref x
    have ty := isT_ty x
    cases x with
    | n h1 h2 h3 h4 =>
      unfold hashByValue
      refine wpAny_bind (wpAny_specialOf ty F.slot_tuple_hash.lookup ?_)
      show wpAny _ _ (seqItems? (.ref b) >>= _) _ _ s
      refine wpAny_bind (wpAny_seqItems h1 h3 ?_)
      refine wpAny_bind ?_
      show wpAny _ _ (forIn _ _ _) _ _ s
      rw [← Array.forIn_toList]
      refine forAll (g := fun r => r.1 = none) (ok := fun v => ∃ t ∈ ts, IsT s.heap t v) (fun v Q ⟨t, ht, y⟩ k r0 _ => ?_) (fun v hv => isTs_all h4 v hv) (fun r hr => ?_) rfl
      · refine wpAny_bind (byval_T n t v _ y ?_ ?_)
        · have := T.depth_mem ht
          rw [T.depth] at hd; omega
        · simp only [Bool.not_true, Bool.false_eq_true, if_false]
          exact wpAny_pure (k _ rfl)
      · obtain ⟨r1, r2⟩ := r
        simp only at hr
        subst hr
        exact wpAny_pure q
theorem quiet_T {t : T} {v : Value} {Q : Bool → Shared → Prop} (x : IsT s.heap t v) (hd : t.depth ≤ 8) (q : Q true s) : wpAny (model P w) A (eqIsQuiet 8 v) Q E s :=
  quiet_key (nk t) v 8 s (nk_is t v x) (by rw [nk_depth]; exact hd) A E Q q
theorem seen_T {t : T} {b : Addr} {Q : Bool → Shared → Prop} (x : IsT s.heap t (.ref b)) (hd : t.depth ≤ 8) {ys : List Value} (hy : ∀ y ∈ ys, ∃ u : T, IsT s.heap u y ∧ u.depth ≤ 8) (q : Q false s) : wpAny (model P w) A (searchCouldBeSeen (.ref b) ys) Q E s := by
  unfold searchCouldBeSeen
  refine wpAny_bind ?_
  refine forAll (g := fun r => r.1 = none) (ok := fun y => ∃ u : T, IsT s.heap u y ∧ u.depth ≤ 8) (fun y Q ⟨u, y1, y2⟩ k r0 h0 => ?_) hy (fun r hr => ?_) rfl
  · obtain ⟨c, rfl⟩ := isT_ref y1
    dsimp only
    by_cases hv : (b == c || (carriedByValue (.ref b) && carriedByValue (.ref c))) = true
    · refine wp_if_pos hv ?_
      exact wpAny_pure (k _ rfl)
    · refine wp_if_neg hv ?_
      refine wpAny_bind (quiet_T x hd ?_)
      simp only [Bool.not_true, Bool.false_eq_true, if_false]
      refine wpAny_bind (quiet_T y1 y2 ?_)
      simp only [Bool.not_true, Bool.false_eq_true, if_false]
      refine wpAny_bind (class_T 8 t _ _ x hd ?_)
      simp only [Bool.false_eq_true, if_false]
      refine wpAny_bind (class_T 8 u _ _ y1 y2 ?_)
      simp only [Bool.false_eq_true, if_false]
      exact wpAny_pure (k _ rfl)
  · obtain ⟨r1, r2⟩ := r
    simp only at hr
    subst hr
    exact wpAny_pure q
theorem hash_T {t : T} {v : Value} {Q : Int → Shared → Prop} (x : IsT s.heap t v) (hu : A.units + t.depth < cLine) (q : Q (hT w t) { s with toks := s.toks + (nk t).draws }) : wpAny (model P w) A (pyHash v) Q E s :=
  pyHash_key (nk t) v A s Q (nk_is t v x) (by rw [nk_depth]; exact hu) q
end

/-! ### a set that holds trees: at each row the address and the tree -/
def ent (w : World) (p : Addr × T) : Int × Value := (hT w p.2, .ref p.1)
structure SetTr (w : World) (h : Heap) (a : Addr) (L : List (Addr × T)) (es : Array (Int × Value)) (ep : Nat) (t : SetTable) : Prop where
  ob : ∃ o, h.get? a = some o ∧ o.ExactSet ∧ o.data = .set es ep t
  rows : es.toList = L.map (ent w)
  tab : TabOk t (L.map fun p => hT w p.2)
  nd : (L.map (·.2)).Nodup
  tup : ∀ p ∈ L, IsT h p.2 (.ref p.1) ∧ p.2.depth ≤ 8
  pl : t.plain = true
  ld : w.params.followText "set-order" = true ∨ t.led = true
  room : L.length * 5 < t.mask * 3
  few : L.length < 64
section
variable {P : Program} {w : World} {A : Around} {E : Value → Shared → Prop} {s : Shared} {a : Addr} {L : List (Addr × T)} {es : Array (Int × Value)} {ep : Nat} {t : SetTable}
theorem rows_len (h : es.toList = L.map (ent w)) : es.size = L.length := by
  rw [← Array.length_toList, h, List.length_map]
theorem SetTr.sz (R : SetTr w s.heap a L es ep t) : t.place.size = L.length := by
  have h := R.tab.sz
  rwa [List.length_map] at h
theorem SetTr.ok (R : SetTr w s.heap a L es ep t) : t.fits es.size = true := by
  have h1 := R.sz
  have h2 := rows_len R.rows
  have h3 := R.room
  unfold SetTable.fits SetTable.fill
  rw [R.tab.dm, Bool.and_eq_true, beq_iff_eq, decide_eq_true_eq]
  exact ⟨by omega, by show t.place.size + 0 ≤ t.mask; omega⟩
theorem SetTr.row (R : SetTr w s.heap a L es ep t) {i : Nat} {p : Addr × T} (h : L[i]? = some p) : es[i]? = some (ent w p) := by
  rw [← Array.getElem?_toList, R.rows, List.getElem?_map, h]; rfl
theorem SetTr.odd (R : SetTr w s.heap a L es ep t) : ¬ t.gaveWay = true := by
  have h := mask_odd R.tab.mok
  unfold SetTable.gaveWay
  rw [h]; decide
theorem nth_free (m : Nat) : ∀ (k : Nat) (p : SetTable.Probe), p.dummy = none → (nth m p k).dummy = none
  | 0, _, h => h
  | k + 1, p, h => nth_free m k (adv m p) (by unfold adv; split <;> exact h)
/-- the probe's state behind c steps -/
abbrev stp (t : SetTable) (H : Int) (c : Nat) : SetTable.Probe := nth t.mask (runAt t.mask (SetTable.bits H % (t.mask + 1)) (SetTable.bits H)) c
abbrev hAt (es : Array (Int × Value)) (i : Nat) : Int := (es[i]?.map (·.1)).getD 0
/-- what is looked at of a candidate -/
theorem cand_T (R : SetTr w s.heap a L es ep t) {x : Addr} {k : T} (hx : IsT s.heap k (.ref x)) (hk : k.depth ≤ 8) (hu : A.units + 8 < cLine) {i j f : Nat} {nx : SetTable.Probe} {p : Addr × T} (hp : L[i]? = some p) (hi : t.place.toList[i]? = some j) {Q : SetFound → Shared → Prop}
    (same : p.2 = k → Q (.there none) s) (other : p.2 ≠ k → wpAny (model P w) A (setSearchFrom a (.ref x) (hT w k) true f (some nx)) Q E s) : wpAny (model P w) A (searchRest a (.ref x) (hT w k) true f es t j i nx) Q E s := by
  obtain ⟨o, ho, hex, hd⟩ := R.ob
  obtain ⟨p1, p2⟩ := R.tup p (List.mem_of_getElem? hp)
  unfold searchRest
  rw [R.row hp]
  dsimp only [ent]
  refine wpAny_bind (wpAny_holding (eqAt_T p1 hx (by omega) P w E _ ?_))
  refine wpAny_bind (wpAny_setState_of ho hd R.ok ?_)
  dsimp only
  by_cases e : p.2 = k
  · exact wp_if_pos (by simp [e]) (wpAny_pure (same e))
  · refine wp_if_neg (by simp [e]) ?_
    try refine wpAny_bind (wpAny_pure ?_)
    rw [sameMem]
    dsimp only
    have sl : t.slot j = .live i := slot_live R.tab.ris hi
    have rw0 := R.row hp
    unfold ent at rw0
    simp only [if_true, sl, rw0]
    refine wpAny_bind (wpAny_isSame_ref_self (wpAny_bind (wpAny_pure ?_)))
    simp only [if_true]
    exact wp_if_neg (by simp [e]) (other e)
/-- the search for k from step c on, K the first free step -/
theorem find_T (R : SetTr w s.heap a L es ep t) {x : Addr} {k : T} (hx : IsT s.heap k (.ref x)) (hk : k.depth ≤ 8) (hu : A.units + 8 < cLine) {K : Nat} (hf : K < 10 * SetTable.turns t.mask) (hK : way t.mask (hT w k) K ∉ t.place.toList) (hb : ∀ c, c < K → way t.mask (hT w k) c ∈ t.place.toList)
    {Q : SetFound → Shared → Prop} (yes : k ∈ L.map (·.2) → Q (.there none) s) (no : k ∉ L.map (·.2) → Q (.free (way t.mask (hT w k) K) false) s) : ∀ (f c : Nat) (stand : Option SetTable.Probe), stand.getD (t.probeStart (hT w k)) = stp t (hT w k) c → c ≤ K → K - c < f →
      (∀ (i : Nat) (p : Addr × T), L[i]? = some p → p.2 = k → ∃ c', c ≤ c' ∧ c' < K ∧ t.place.toList[i]? = some (way t.mask (hT w k) c')) → wpAny (model P w) A (setSearchFrom a (.ref x) (hT w k) true f stand) Q E s
  | 0, _, _, _, _, z, _ => absurd z (Nat.not_lt_zero _)
  | f + 1, c, stand, e0, hc, hfu, left => by
    obtain ⟨o, ho, hex, hd⟩ := R.ob
    rw [setSearchFrom_succ]
    refine wpAny_bind (wpAny_setState_of ho hd R.ok ?_)
    dsimp only
    refine wp_if_neg R.odd ?_
    try refine wpAny_bind (wpAny_pure ?_)
    have go : ∀ q, nth t.mask (stp t (hT w k) c) q = stp t (hT w k) (c + q) := fun q => (nth_add t.mask c _ q).symm
    have goj : ∀ q, (nth t.mask (stp t (hT w k) c) q).j = way t.mask (hT w k) (c + q) := fun q => congrArg SetTable.Probe.j (go q)
    have end0 : c + (K - c) = K := by omega
    have hashes : ∀ (i : Nat) (p : Addr × T), L[i]? = some p → (hAt es) i = hT w p.2 := fun i p hp => by
      show (es[i]?.map (·.1)).getD 0 = _
      rw [R.row hp]; rfl
    have passed : ∀ (n : Nat), (∀ (k' i' : Nat), k' < n → t.place.toList[i']? = some (nth t.mask (stp t (hT w k) c) k').j → (hAt es) i' ≠ hT w k) → ∀ (i : Nat) (p : Addr × T) (c' : Nat), L[i]? = some p → p.2 = k → c ≤ c' → t.place.toList[i]? = some (way t.mask (hT w k) c') → c + n ≤ c' := fun n h i p c' hp hpk h1 h2 =>
      Classical.byContradiction fun z => h (c' - c) i (by omega) (by rw [goj, show c + (c' - c) = c' by omega]; exact h2) ((hashes i p hp).trans (congrArg (hT w) hpk))
    rcases go_spec t R.tab.ris R.tab.dm (hAt es) (hT w k) (10 * SetTable.turns t.mask) (K - c) (stp t (hT w k) c) (nth_free _ c _ rfl) (by omega) (fun q hq => by rw [goj]; exact hb _ (by omega)) (by rw [goj, end0]; exact hK) with ⟨q, i, hq, hi, _, before, met⟩ | ⟨before, met⟩
    · have met' : t.probe (hAt es) (hT w k) (stand.getD (t.probeStart (hT w k))) = some (.candidate (way t.mask (hT w k) (c + q)) i (stp t (hT w k) (c + (q + 1)))) := by
        rw [e0, ← goj, ← go]; exact met
      rw [met']
      dsimp only
      rw [goj] at hi
      have li : i < L.length := by
        have h1 := (List.getElem?_eq_some_iff.mp hi).1
        rw [Array.length_toList, R.sz] at h1
        exact h1
      obtain ⟨p, hp⟩ : ∃ p, L[i]? = some p := ⟨_, List.getElem?_eq_getElem li⟩
      have rest : wpAny (model P w) A (searchRest a (.ref x) (hT w k) true f es t (way t.mask (hT w k) (c + q)) i (stp t (hT w k) (c + (q + 1)))) Q E s := by
        refine cand_T R hx hk hu hp hi (fun e => yes (List.mem_map.mpr ⟨p, List.mem_of_getElem? hp, e⟩)) fun ne => find_T R hx hk hu hf hK hb yes no f (c + (q + 1)) _ rfl (by omega) (by omega) fun i2 p2 h2 e2 => ?_
        obtain ⟨c', a1, a2, a3⟩ := left i2 p2 h2 e2
        have a4 := passed q before i2 p2 c' h2 e2 a1 a3
        refine ⟨c', ?_, a2, a3⟩
        rcases Nat.eq_or_lt_of_le a4 with z | z
        · exfalso
          rw [← z] at a3
          have s1 := slot_live R.tab.ris a3
          have s2 := slot_live R.tab.ris hi
          rw [s1] at s2
          injection s2 with s2
          rw [s2, hp] at h2
          exact ne ((congrArg Prod.snd (Option.some.inj h2)).trans e2)
        · omega
      by_cases hl : t.led = true
      · refine wp_if_neg (by simp [hl]) ?_
        try refine wpAny_bind (wpAny_pure ?_)
        exact rest
      · refine wp_if_pos (by simp [hl]) ?_
        refine wpAny_bind (seen_T hx hk (fun y hy => ?_) ?_)
        · obtain ⟨e, he, ey⟩ := List.mem_map.mp hy
          have hm : e ∈ es := (by simpa using he : e ∈ es ∧ e.1 = hT w k).1
          rw [← Array.mem_toList_iff, R.rows] at hm
          obtain ⟨p2, hp2, e2⟩ := List.mem_map.mp hm
          rw [← ey, ← e2]
          exact ⟨p2.2, R.tup p2 hp2⟩
        · refine wp_if_neg (by decide) ?_
          try refine wpAny_bind (wpAny_pure ?_)
          exact rest
    · have met' : t.probe (hAt es) (hT w k) (stand.getD (t.probeStart (hT w k))) = some (.empty (way t.mask (hT w k) K) none) := by
        have e2 := goj (K - c)
        rw [end0] at e2
        rw [e0, ← e2]; exact met
      rw [met']
      dsimp only
      refine wpAny_pure (no fun hm => ?_)
      obtain ⟨p, hpm, hpk⟩ := List.mem_map.mp hm
      obtain ⟨i, hi⟩ := List.mem_iff_getElem?.mp hpm
      obtain ⟨c', a1, a2, a3⟩ := left i p hi hpk
      have := passed (K - c) before i p c' hi hpk a1 a3
      omega
theorem search_T (R : SetTr w s.heap a L es ep t) {x : Addr} {k : T} (hx : IsT s.heap k (.ref x)) (hk : k.depth ≤ 8) (hu : A.units + 8 < cLine) {Q : SetFound → Shared → Prop} (yes : k ∈ L.map (·.2) → Q (.there none) s)
    (no : ∀ K, k ∉ L.map (·.2) → way t.mask (hT w k) K ∉ t.place.toList → (∀ c, c < K → way t.mask (hT w k) c ∈ t.place.toList) → Q (.free (way t.mask (hT w k) K) false) s) : wpAny (model P w) A (setSearch a (.ref x) (hT w k) true) Q E s := by
  have hr := R.room
  obtain ⟨K, h1, h2, h3⟩ := R.tab.first (by rw [List.length_map]; omega) (hT w k)
  have big : 10 * SetTable.turns t.mask ≤ 1420 := by
    unfold SetTable.turns
    rcases R.tab.mok with e | e | e <;> omega
  unfold setSearch
  refine find_T R hx hk hu h1 h2 h3 yes (fun n => no K n h2 h3) 100000 0 none rfl (Nat.zero_le _) (by omega) fun i p hp hpk => ?_
  have hi : (L.map fun p => hT w p.2)[i]? = some (hT w k) := by rw [List.getElem?_map, hp, ← hpk]; rfl
  have li : i < t.place.toList.length := by rw [Array.length_toList, R.sz]; exact (List.getElem?_eq_some_iff.mp hp).1
  obtain ⟨c, hc, e⟩ := R.tab.before h2 hi (List.getElem?_eq_getElem li)
  exact ⟨c, Nat.zero_le _, hc, by rw [List.getElem?_eq_getElem li, e]⟩
end

/-! ### adding -/
section
variable {P : Program} {w : World} {A : Around} {E : Value → Shared → Prop} {s : Shared} {a : Addr} {L : List (Addr × T)} {es : Array (Int × Value)} {ep : Nat} {t : SetTable}
/-- the trees stay when the set changes -/
theorem tree_same {h h' : Heap} {k : T} {v : Value} {o : Obj} (x : IsT h k v) (ho : h.get? a = some o) (hc : o.cls = .type "set") (sb : Heap.SameBut a h h') : IsT h' k v :=
  x.keep (fun b ob e hb => by
    have : b ≠ a := fun z => by
      subst z
      rw [ho] at e
      cases e
      rw [hc] at hb
      exact absurd (Value.type.inj hb) (by decide)
    exact (sb.2 b this).trans e) k v
theorem range_get {α : Type} : ∀ l : List α, (List.range l.length).filterMap (fun i => l[i]?) = l
  | [] => rfl
  | x :: l => by
    rw [List.length_cons, List.range_succ_eq_map, List.filterMap_cons_some (f := fun i => (x :: l)[i]?) (a := 0) (b := x) rfl, List.filterMap_map]
    congr 1
    exact range_get l
theorem order_T (L : List (Addr × T)) (es : Array (Int × Value)) (order : Array Nat) (hr : es.toList = L.map (ent w)) (hp : order.toList.Perm (List.range L.length)) :
    ∃ L2 : List (Addr × T), (order.filterMap (es[·]?)).toList = L2.map (ent w) ∧ L2.Perm L ∧ (L2.map fun p => hT w p.2) = order.toList.map fun i => (es.map (·.1)).getD i 0 := by
  have at0 : ∀ i : Nat, es[i]? = (L[i]?).map (ent w) := fun i => by rw [← Array.getElem?_toList, hr, List.getElem?_map]
  refine ⟨order.toList.filterMap (fun i => L[i]?), ?_, ?_, ?_⟩
  · have e1 : (order.filterMap (es[·]?)).toList = order.toList.filterMap (fun i => es[i]?) := by first | exact Array.toList_filterMap | simp
    rw [e1, List.map_filterMap]
    exact congrArg (fun f => List.filterMap f order.toList) (funext at0)
  · have h := hp.filterMap (fun i => L[i]?)
    rwa [range_get] at h
  · have inr : ∀ i ∈ order.toList, i < L.length := fun i hi => List.mem_range.mp (hp.mem_iff.mp hi)
    clear hp
    generalize order.toList = l at inr
    induction l with
    | nil => rfl
    | cons i l ih =>
      have hi := inr i List.mem_cons_self
      have g := List.getElem?_eq_getElem hi
      rw [List.filterMap_cons_some g, List.map_cons, List.map_cons, ih fun j hj => inr j (List.mem_cons_of_mem _ hj)]
      congr 1
      have e5 : (es.map (·.1))[i]? = some (hT w L[i].2) := by rw [Array.getElem?_map, at0, g]; rfl
      simp [Array.getD_eq_getD_getElem?, e5]
/-- the table laid anew -/
theorem relay_T {o : Obj} (ho : s.heap.get? a = some o) (hex : o.ExactSet) (hd : o.data = .set es ep t) (hr : es.toList = L.map (ent w)) (hsz : t.place.size = es.size) (hdm : t.dummies = #[]) (hfl : es.size ≤ t.mask) (nd : (L.map (·.2)).Nodup)
    (tup : ∀ p ∈ L, IsT s.heap p.2 (.ref p.1) ∧ p.2.depth ≤ 8) (pl : t.plain = true) (ld : w.params.followText "set-order" = true ∨ t.led = true) (few : L.length < 64) {wanted M : Nat} (hw : SetTable.sizeAbove wanted - 1 = M) (hM : MaskOk M) (hw2 : SetTable.sizeAbove wanted ≤ 128) (hn : L.length * 5 < M * 3) {Q : Unit → Shared → Prop}
    (q : ∀ h' L' es' ep' t', Heap.SameBut a s.heap h' → SetTr w h' a L' es' ep' t' → L'.Perm L → Q () { s with heap := h' }) : wpAny (model P w) A (setRelay a wanted) Q E s := by
  have l0 := rows_len hr
  have fit : t.fits es.size = true := by
    unfold SetTable.fits SetTable.fill
    rw [hdm, Bool.and_eq_true, beq_iff_eq, decide_eq_true_eq]
    exact ⟨hsz, by show t.place.size + 0 ≤ t.mask; omega⟩
  obtain ⟨t', order, e, hp, tb, em, el, ep', ed⟩ := relaid_ok t (hs := es.map (·.1)) (wanted := wanted) hw hM (by rw [Array.size_map, l0]; omega)
  rw [Array.size_map, l0] at hp
  obtain ⟨L2, r1, r2, r3⟩ := order_T L es order hr hp
  rw [← r3] at tb
  have z := rows_len r1
  have z2 : (order.filterMap (es[·]?)).size = es.size := by rw [z, r2.length_eq, l0]
  rw [setRelay_eq]
  refine wpAny_bind (wpAny_setState_of ho hd fit ?_)
  dsimp only
  refine wp_if_neg (by rw [sizeLine_eq]; omega) ?_
  try refine wpAny_bind (wpAny_pure ?_)
  rw [e]
  dsimp only
  refine wpAny_bind ?_
  refine wp_if_neg (by rw [z2]; simp) ?_
  try refine wpAny_bind (wpAny_pure ?_)
  refine wpAny_pure ?_
  dsimp only
  refine wpAny_storeSet_of ho hd ?_ (by rw [z2, l0, sizeLine_eq]; omega)
  have sb : Heap.SameBut a s.heap (s.heap.update a (Obj.putSet (order.filterMap (es[·]?)) t')) := Heap.SameBut.update ..
  refine q _ L2 (order.filterMap (es[·]?)) (ep + 1) t' sb ⟨⟨_, store_at ho hd, ⟨hex.1, hex.2.1, hex.2.2⟩, rfl⟩, r1, tb, (r2.map (·.2)).nodup_iff.mpr nd, fun p hm => ?_, by rw [ep']; exact pl, by rw [el]; exact ld, by rw [r2.length_eq, em]; exact hn, by rw [r2.length_eq]; exact few⟩ r2
  obtain ⟨q1, q2⟩ := tup p (r2.mem_iff.mp hm)
  exact ⟨tree_same q1 ho hex.1 sb, q2⟩
theorem put_rows {α : Type} (l : List α) (p : Nat) (x : α) : (l.take p ++ x :: l.drop p).Perm (x :: l) := by
  have h : (l.take p ++ x :: l.drop p).Perm (x :: (l.take p ++ l.drop p)) := List.perm_middle
  rwa [List.take_append_drop] at h
/-- one more -/
theorem add_T (R : SetTr w s.heap a L es ep t) {x : Addr} {k : T} (hx : IsT s.heap k (.ref x)) (hk : k.depth ≤ 8) (hu : A.units + 8 < cLine) (hfew : L.length + 1 < 64) {Q : Bool → Shared → Prop}
    (q : ∀ b h' L' es' ep' t', Heap.SameBut a s.heap h' → SetTr w h' a L' es' ep' t' → (k ∈ L.map (·.2) → L' = L) → (k ∉ L.map (·.2) → L'.Perm ((x, k) :: L)) → Q b { s with heap := h' }) : wpAny (model P w) A (setAddHashed a (.ref x) (hT w k)) Q E s := by
  obtain ⟨o, ho, hex, hd⟩ := R.ob
  have l0 := rows_len R.rows
  have hr := R.room
  unfold setAddHashed
  refine wpAny_holding ?_
  rw [show (100000 : Nat) = 99999 + 1 from rfl, setAddHashedIn_succ]
  refine wpAny_bind (wpAny_setState_of ho hd R.ok ?_)
  dsimp only
  refine wp_if_neg (by simp [byScan, Value.scannable]) ?_
  try refine wpAny_bind (wpAny_pure ?_)
  refine wpAny_bind (search_T R hx hk hu (fun hm => ?_) fun K hm hK hb => ?_)
  · dsimp only
    exact wpAny_pure (q false s.heap L es ep t (Heap.SameBut.refl a s.heap) R (fun _ => rfl) fun z => absurd hm z)
  · dsimp only
    refine wpAny_bind (wpAny_setState_of ho hd R.ok ?_)
    dsimp only
    obtain ⟨q1, q2, q3, q4, q5, q6, q7, q8, q9⟩ := R.tab.put hK hb
    have pl1 : (t.put (way t.mask (hT w k) K)).1.plain = true := by rw [q6]; exact R.pl
    generalize t.put (way t.mask (hT w k) K) = pt at q1 q3 q4 q5 q6 q7 q8 q9 pl1 ⊢
    obtain ⟨t1, p⟩ := pt
    dsimp only at q1 q3 q4 q5 q6 q7 q8 q9 pl1 ⊢
    subst q1
    first
      | (refine wpAny_bind ?_; refine wp_if_pos pl1 ?_; refine byval_T 8 k _ _ hx hk ?_)
      | refine wp_if_pos pl1 (wpAny_bind (byval_T 8 k _ _ hx hk ?_))
    simp only [if_true]
    generalize hpp : SetTable.below t.place (way t.mask (hT w k) K) = p at q2 q3 ⊢
    have row1 : (SetTable.insertAt es p (hT w k, Value.ref x)).toList = (L.take p ++ (x, k) :: L.drop p).map (ent w) := by
      rw [SetTable.toList_insertAt, R.rows, List.map_append, List.map_cons, List.map_take, List.map_drop]; rfl
    have hs1 : (L.take p ++ (x, k) :: L.drop p).map (fun p => hT w p.2) = (L.map fun p => hT w p.2).take p ++ hT w k :: (L.map fun p => hT w p.2).drop p := by
      rw [List.map_append, List.map_cons, List.map_take, List.map_drop]
    rw [← hs1] at q3
    have pm := put_rows L p (x, k)
    have n1 : (L.take p ++ (x, k) :: L.drop p).length = L.length + 1 := pm.length_eq
    generalize L.take p ++ (x, k) :: L.drop p = L1 at pm n1 q3 row1
    have z1 := rows_len row1
    rw [n1] at z1
    generalize SetTable.insertAt es p (hT w k, Value.ref x) = es1 at row1 z1 ⊢
    have nd1 : (L1.map (·.2)).Nodup := by
      refine (pm.map (·.2)).nodup_iff.mpr ?_
      rw [List.map_cons]
      exact List.nodup_cons.mpr ⟨hm, R.nd⟩
    refine wpAny_bind (wpAny_storeSet_of ho hd ?_ (by rw [z1, sizeLine_eq]; omega))
    have sb : Heap.SameBut a s.heap (s.heap.update a (Obj.putSet es1 t1)) := Heap.SameBut.update ..
    have ho1 := store_at (es' := es1) (t' := t1) ho hd
    generalize s.heap.update a (Obj.putSet es1 t1) = h1 at sb ho1 ⊢
    have tup1 : ∀ p ∈ L1, IsT h1 p.2 (.ref p.1) ∧ p.2.depth ≤ 8 := fun p hp => by
      rcases List.mem_cons.mp (pm.mem_iff.mp hp) with e | hp
      · rw [e]; exact ⟨tree_same hx ho hex.1 sb, hk⟩
      · exact ⟨tree_same (R.tup p hp).1 ho hex.1 sb, (R.tup p hp).2⟩
    have ld1 : w.params.followText "set-order" = true ∨ t1.led = true := by rw [q5]; exact R.ld
    rw [List.length_map] at q9
    by_cases full : t1.tooFull = true
    · first
        | (refine wpAny_bind ?_; refine wp_if_pos (by simp [full]) ?_)
        | (refine wp_if_pos (by simp [full]) ?_; refine wpAny_bind ?_)
      have f1 : (L.length + 1) * 5 ≥ t1.mask * 3 := by
        unfold SetTable.tooFull at full
        rw [decide_eq_true_eq, q9] at full
        exact full
      rw [l0]
      have z2 : t1.place.size = es1.size := by
        have h := q3.sz
        rw [List.length_map, n1] at h
        rw [h, z1]
      have two : (t.mask = 7 ∧ L.length = 4) ∨ (t.mask = 31 ∧ L.length = 18) := by
        rcases R.tab.mok with e | e | e
        · left; rw [q4, e] at f1; rw [e] at hr; exact ⟨e, by omega⟩
        · right; rw [q4, e] at f1; rw [e] at hr; exact ⟨e, by omega⟩
        · exfalso; rw [q4, e] at f1; omega
      have more : ∀ M, SetTable.sizeAbove (SetTable.grown (L.length + 1)) - 1 = M → MaskOk M → SetTable.sizeAbove (SetTable.grown (L.length + 1)) ≤ 128 → (L.length + 1) * 5 < M * 3 →
          wpAny (model P w) A (setRelay a (SetTable.grown (L.length + 1))) (fun _ s' => wpAny (model P w) A (pure true) Q E s') E { s with heap := h1 } := fun M b1 b2 b3 b4 =>
        relay_T (s := { s with heap := h1 }) ho1 ⟨hex.1, hex.2.1, hex.2.2⟩ rfl row1 z2 q3.dm (by rw [z1, q4]; rcases two with ⟨e, e2⟩ | ⟨e, e2⟩ <;> omega) nd1 tup1 pl1 ld1 (by rw [n1]; exact hfew) b1 b2 b3 (by rw [n1]; exact b4) fun h2 L2 es2 ep2 t2 sb2 R2 pm2 =>
          wpAny_pure (q true h2 L2 es2 ep2 t2 (sb.trans sb2) R2 (fun z => absurd z hm) fun _ => pm2.trans pm)
      rcases two with ⟨_, e2⟩ | ⟨_, e2⟩
      · exact more 31 (by rw [e2, size_20]) (.inr (.inl rfl)) (by rw [e2, size_20]; decide) (by omega)
      · exact more 127 (by rw [e2, size_76]) (.inr (.inr rfl)) (by rw [e2, size_76]; decide) (by omega)
    · first
        | refine wp_if_neg (by simp [full]) ?_
        | (refine wpAny_bind ?_; refine wp_if_neg (by simp [full]) ?_; refine wpAny_pure ?_)
      refine wpAny_pure (q true h1 L1 es1 (ep + 1) t1 sb ⟨⟨_, ho1, ⟨hex.1, hex.2.1, hex.2.2⟩, rfl⟩, row1, q3, nd1, tup1, pl1, ld1, ?_, by rw [n1]; exact hfew⟩ (fun z => absurd z hm) fun _ => pm)
      unfold SetTable.tooFull at full
      rw [decide_eq_true_eq, q9] at full
      rw [n1]; omega
end
end LM

set_option Elab.async false
set_option linter.all false
set_option maxRecDepth 100000
set_option maxHeartbeats 3200000
/-! LmU: set(a list or tuple of trees), sorted(a set of trees). -/
namespace LM
open PySem PySem.Spec PyProof.Rows L2 Evl
/-- what a set has got of the first i items -/
structure Has0 (ks : List (Addr × T)) (i : Nat) (L : List (Addr × T)) : Prop where
  sub : ∀ p ∈ L, p ∈ ks.take i
  all : ∀ p ∈ ks.take i, p.2 ∈ L.map (·.2)
  len : L.length ≤ i
theorem take1 {α : Type} {l : List α} {i : Nat} {x : α} (h : l[i]? = some x) : l.take (i + 1) = l.take i ++ [x] := by
  rw [List.take_add_one, h]; rfl
theorem Has0.old {ks L : List (Addr × T)} {i : Nat} {x : Addr × T} (g : Has0 ks i L) (h : ks[i]? = some x) (m : x.2 ∈ L.map (·.2)) : Has0 ks (i + 1) L := by
  refine ⟨fun p hp => ?_, fun p hp => ?_, Nat.le_succ_of_le g.len⟩ <;> rw [take1 h] at *
  · exact List.mem_append_left _ (g.sub p hp)
  · rcases List.mem_append.mp hp with z | z
    · exact g.all p z
    · rw [List.mem_singleton.mp z]; exact m
theorem Has0.new {ks L L' : List (Addr × T)} {i : Nat} {x : Addr × T} (g : Has0 ks i L) (h : ks[i]? = some x) (pm : L'.Perm (x :: L)) : Has0 ks (i + 1) L' := by
  refine ⟨fun p hp => ?_, fun p hp => ?_, by rw [pm.length_eq]; exact Nat.succ_le_succ g.len⟩ <;> rw [take1 h] at *
  · rcases List.mem_cons.mp (pm.mem_iff.mp hp) with e | z
    · rw [e]; exact List.mem_append_right _ (List.mem_singleton.mpr rfl)
    · exact List.mem_append_left _ (g.sub p z)
  · rw [(pm.map (·.2)).mem_iff, List.map_cons]
    rcases List.mem_append.mp hp with z | z
    · exact List.mem_cons_of_mem _ (g.all p z)
    · rw [List.mem_singleton.mp z]; exact List.mem_cons_self
/-- the items are trees of depth at most 8 -/
def Trees (h : Heap) (ks : List (Addr × T)) : Prop := ∀ p ∈ ks, IsT h p.2 (.ref p.1) ∧ p.2.depth ≤ 8
section
variable {P : Program} {w : World} {A : Around} {E : Value → Shared → Prop} {s : Shared}
theorem SetTr.move {h h' : Heap} {a : Addr} {L ks : List (Addr × T)} {i : Nat} {es : Array (Int × Value)} {ep : Nat} {t : SetTable} {h0 : Heap} (R : SetTr w h a L es ep t) (g : Has0 ks i L) (ha : ∀ o, h.get? a = some o → h'.get? a = some o) (tr : Trees h0 ks) (k : ∀ b o, h0.get? b = some o → h'.get? b = some o) : SetTr w h' a L es ep t := by
  obtain ⟨o, ho, r⟩ := R.ob
  refine ⟨⟨o, ha o ho, r⟩, R.rows, R.tab, R.nd, fun p hp => ?_, R.pl, R.ld, R.room, R.few⟩
  obtain ⟨q1, q2⟩ := tr p (List.mem_of_mem_take (g.sub p hp))
  exact ⟨q1.keep (fun b o e _ => k b o e) _ _, q2⟩
theorem fresh_set {h : Heap} {a : Addr} (ho : h.get? a = some { cls := .type "set", dict := none, data := .set #[] 0 (.fresh 0 0 (!w.params.followText "set-order")) }) : SetTr w h a [] #[] 0 (.fresh 0 0 (!w.params.followText "set-order")) :=
  ⟨⟨_, ho, ⟨rfl, rfl, rfl⟩, rfl⟩, rfl, ⟨List.Pairwise.nil, rfl, rfl, .inl rfl, fun x hx => (by cases hx), fun i h j hi => (by simp at hi)⟩, List.nodup_nil, fun p hp => (by cases hp), rfl,
    (by show _ ∨ (!w.params.followText "set-order") = true; cases w.params.followText "set-order" <;> simp), (by show 0 * 5 < 7 * 3; decide), (by show 0 < 64; decide)⟩
/-- set.update's loop over trees -/
theorem update_T {I : Addr} {fp wr : List Addr} {G : Array GenState → Array GenState → Prop} {n : Nat} {Pv : Nat → Value → Prop} {St : Nat → Shared → Prop} {R : Result → Shared → Prop} (W : WalksS P w A.in1 I fp wr G n Pv St) (S : Addr) (hSf : S ∉ fp) (ks : List (Addr × T)) (hn : n = ks.length) (few : ks.length < 64)
    (hv : ∀ i v, Pv i v → ∃ p, ks[i]? = some p ∧ v = .ref p.1) (h0 : Heap) (tr : Trees h0 ks) (hS0 : h0.get? S = none) (hw0 : ∀ b ∈ wr, h0.get? b = none) (hu : A.in1.units + 8 < cLine) : ∀ (k i : Nat) (s : Shared), n - i = k → i ≤ n → St i s → (∀ b o, h0.get? b = some o → s.heap.get? b = some o) →
      (∃ L es ep t, SetTr w s.heap S L es ep t ∧ Has0 ks i L) → (∀ s' L es ep t, Moved (S :: wr) G s s' → SetTr w s'.heap S L es ep t → Has0 ks n L → (∀ b o, h0.get? b = some o → s'.heap.get? b = some o) → R (.ok (.ret .none)) s') →
      codeAny (model P w) A (.builtin "set.update.loop" ⟨[.ref S, .ref I], []⟩) R s := by
  have out : S ∉ wr := fun h => hSf (W.sub _ h)
  have wide : ∀ b ∈ wr, b ∈ S :: wr := fun b hb => List.mem_cons_of_mem _ hb
  have still : ∀ {s s' : Shared}, Moved wr G s s' → (∀ b o, h0.get? b = some o → s.heap.get? b = some o) → ∀ b o, h0.get? b = some o → s'.heap.get? b = some o := fun hm hk b o e => hm.heap b o (fun hb => by rw [hw0 b hb] at e; cases e) (hk b o e)
  intro k
  induction k with
  | zero =>
    intro i s hk hi hst keep ⟨L, es, ep, t, hS, g⟩ fin
    obtain rfl : i = n := by omega
    refine codeAny_builtin F.entry_set_update_loop ?_
    rw [Around.under_plainId F.plain_set_update_loop _]
    show wpAny _ A.in1 (pyNext (.ref I) >>= _) _ _ s
    refine wpAny_bind (W.done s _ _ hst fun s' hm => ?_)
    show wpAny _ A.in1 (ret Value.none) _ _ s'
    have keep' := still hm keep
    exact wpAny_pure (fin s' L es ep t (hm.mono wide) (hS.move g (fun o e => hm.heap S o out e) tr keep') g keep')
  | succ k ih =>
    intro i s hk hi hst keep ⟨L, es, ep, t, hS, g⟩ fin
    have lt : i < n := by omega
    refine codeAny_builtin F.entry_set_update_loop ?_
    rw [Around.under_plainId F.plain_set_update_loop _]
    show wpAny _ A.in1 (pyNext (.ref I) >>= _) _ _ s
    refine wpAny_bind (W.item i s _ _ lt hst fun v s' hP hst' hm => ?_)
    obtain ⟨p, hp, rfl⟩ := hv i v hP
    have keep' := still hm keep
    have hS' : SetTr w s'.heap S L es ep t := hS.move g (fun o e => hm.heap S o out e) tr keep'
    obtain ⟨x0, xd⟩ := tr p (List.mem_of_getElem? hp)
    have x1 : IsT s'.heap p.2 (.ref p.1) := x0.keep (fun b o e _ => keep' b o e) _ _
    show wpAny _ A.in1 (holding [Value.ref p.1] (setAdd S (.ref p.1)) >>= _) _ _ s'
    refine wpAny_bind (wpAny_holding ?_)
    unfold setAdd
    refine wpAny_holding (wpAny_bind (hash_T x1 (by omega) ?_))
    refine add_T (s := { s' with toks := s'.toks + (nk p.2).draws }) hS' x1 xd hu (by have := g.len; omega) fun b h' L' es' ep' t' sb hS2 c1 c2 => ?_
    have g' : Has0 ks (i + 1) L' := by
      rcases Classical.em (p.2 ∈ L.map (·.2)) with c | c
      · rw [c1 c]; exact g.old hp c
      · exact g.new hp (c2 c)
    have keep2 : ∀ b o, h0.get? b = some o → h'.get? b = some o := fun b o e => (sb.2 b (fun z => by rw [z, hS0] at e; cases e)).trans (keep' b o e)
    refine wpAny_pure ⟨plainId_quiet F.plain_set_update_loop _, ih (i + 1) _ (by omega) lt (W.frame _ s' _ _ hst' (Nat.le_add_right _ _) fun b hb o e => ?_) keep2 ⟨L', es', ep', t', hS2, g'⟩ fun s'' L2 es2 ep2 t2 hm'' hS'' g'' keep'' => ?_⟩
    · rw [sb.2 b (fun h : b = S => hSf (h ▸ hb))]; exact e
    · refine fin s'' L2 es2 ep2 t2 (Moved.trans W.gtrans ((hm.mono wide).then_heap (Nat.le_add_right _ _) fun b o hb e => ?_) hm'') hS'' g'' keep''
      rw [sb.2 b (fun h : b = S => hb (h ▸ List.mem_cons_self))]; exact e
/-- a new set's object -/
abbrev set0 (w : World) : Obj := { cls := .type "set", dict := none, data := .set #[] 0 (.fresh 0 0 (!w.params.followText "set-order")) }
/-- what stands at l: a list or a tuple of these items -/
def Row (h : Heap) (l : Addr) (items : Array Value) : Prop := h.IsList l items ∨ h.IsTuple l items
/-- set(xs) -/
theorem call_setT {l : Addr} {items : Array Value} (ks : List (Addr × T)) {Q : Value → Shared → Prop} (hh : A.handled = none) (hl : Row s.heap l items) (hit : items.toList = ks.map fun p => Value.ref p.1) (tr : Trees s.heap ks) (few : ks.length < 64) (hu : A.units + 20 < cLine)
    (q : ∀ (h' : Heap) (tk : Nat) L es ep t, SetTr w h' s.heap.objs.size L es ep t → Has0 ks ks.length L → (∀ b o, s.heap.get? b = some o → h'.get? b = some o) → Q (.ref s.heap.objs.size) { s with heap := h', toks := tk }) : wpAny (model P w) A (call (.type "set") [.ref l]) Q E s := by
  have n0 : items.size = ks.length := by rw [← Array.length_toList, hit, List.length_map]
  obtain ⟨c, tl, hmro⟩ := F.called_set.mro
  have hmade := F.called_set.made
  have hsub := F.called_set.sub
  refine wpAny_call (codeAny_of_tree ?_)
  show wpAny _ _ (callAny (.type "set") _) _ _ _
  refine wpAny_pure ⟨Code.quiet_builtin _ (by decide +kernel), codeAny_builtin F.entry_type_call ?_⟩
  rw [Around.under_plain (weight_type_call_type "set" [.ref l] []) rfl]
  have h1 := F.called_set.notType
  have h2 := F.called_set.canCreate
  have hct := F.typeCall_set_1 (.ref l)
  repeat (any_goals (first | assumption | wp_step))
  obtain ⟨O, hO⟩ : ∃ O : Obj, O = { cls := .type "set", dict := none, data := .set #[] 0 (.fresh 0 0 (!w.params.followText "set-order")) } := ⟨_, rfl⟩
  refine codeAny_mono (code_set_led1 (.ref l) (E := E) (Q₁ := fun obj s₁ => obj = .ref s.heap.objs.size ∧ s₁ = { s with heap := s.heap.push O }) ⟨rfl, by rw [hO]⟩) fun r s₁ hr => ?_
  cases r with
  | error e => exact hr
  | ok fl =>
    cases fl with
    | ret obj =>
      obtain ⟨rfl, rfl⟩ := hr
      have hS : (s.heap.push O).get? s.heap.objs.size = some O := Heap.get?_push_size _ (by rw [hO]; rfl)
      have ty : Shared.TypeIs { s with heap := s.heap.push O } (.ref s.heap.objs.size) "set" := ⟨_, hS, by rw [hO]⟩
      have hli := F.called_set.init.lookup
      have hbi := F.called_set.init.bind (.ref s.heap.objs.size)
      repeat (any_goals (first | assumption | wp_step))
      refine codeAny_mono (codeAny_call_builtin (R := wants (fun r s₂ => r = .none ∧ ∃ h' tk L es ep t, s₂ = { s with heap := h', toks := tk } ∧ SetTr w h' s.heap.objs.size L es ep t ∧ Has0 ks ks.length L ∧ (∀ b o, s.heap.get? b = some o → h'.get? b = some o)) E) F.called_set.init.plain F.entry_set_init (check_set_init_1 ty ?_)) fun r₂ s₂ hr₂ => ?_
      · have lS : l < s.heap.objs.size := by
          rcases hl with ⟨o, ho, _⟩ | ⟨o, ho, _⟩ <;> exact Heap.lt_size ho
        have hh3 : A.in1.in1.in1.handled = none := by simp [hh]
        have z1 : (s.heap.push O).objs.size = s.heap.objs.size + 1 := Heap.size_push ..
        have neI : l ≠ (s.heap.push O).objs.size := by rw [z1]; exact Nat.ne_of_lt (Nat.lt_succ_of_lt lS)
        have nS : s.heap.objs.size ∉ [(s.heap.push O).objs.size, l] := by
          rw [z1]; simp only [List.mem_cons, List.not_mem_nil, or_false, not_or]
          exact ⟨Nat.ne_of_lt (Nat.lt_succ_self _), Nat.ne_of_gt lS⟩
        have hval : ∀ (i : Nat) (v : Value), items[i]? = some v → ∃ p, ks[i]? = some p ∧ v = .ref p.1 := fun i v hv => by
          have g : items.toList[i]? = some v := by rw [Array.getElem?_toList]; exact hv
          rw [hit, List.getElem?_map] at g
          obtain ⟨p, h1, h2⟩ := Option.map_eq_some_iff.mp g
          exact ⟨p, h1, h2.symm⟩
        have none_of : ∀ b, s.heap.objs.size ≤ b → s.heap.get? b = none := fun b hb => by
          cases g : s.heap.get? b with
          | none => rfl
          | some o => exact absurd (Nat.lt_of_lt_of_le (Heap.lt_size g) hb) (Nat.lt_irrefl _)
        rcases hl with hl | hl
        · subst hO
          obtain ⟨⟨c1, d1, t1, l1⟩, ho, hc, nl, hd⟩ := id hl
          simp only at hc hd
          subst hc hd
          have ho' : (s.heap.push (set0 w)).get? l = some { cls := .type "list", dict := d1, data := .seq items nl, slots := l1 } := Heap.get?_push_of_some _ ho
          have f1 := F.sub_list_set
          have f2 := F.sub_list_frozenset
          have f3 : (Value.type "list" == Value.type "dict") = false := by decide
          have hl1 : (s.heap.push (set0 w)).IsList l items := ⟨_, ho', rfl, nl, rfl⟩
          unfold Builtin.«set.__init__» noKeywords Builtin.Frozenset.updateFrom
          generalize hPI : pyIter = PI
          wp_walk
          subst hPI
          refine wpAny_pyIter_list hl1 ?_
          refine wpAny_bind (wpAny_runValue ?_)
          refine update_T ((Walks.list hh3 _ l neI items).toS) s.heap.objs.size nS ks n0 few hval s.heap tr (none_of _ (Nat.le_refl _)) (fun b hb => none_of b (by rw [List.mem_singleton.mp hb, z1]; exact Nat.le_succ _)) (by show A.units + 1 + 1 + 1 + 8 < cLine; omega) (items.size - 0) 0 _ (by omega) (Nat.zero_le _)
            ⟨⟨_, Heap.get?_push_size _ rfl, rfl, rfl⟩, (hl1.push _)⟩ (fun b o e => Heap.get?_push_of_some _ (Heap.get?_push_of_some _ e)) ⟨[], #[], 0, _, fresh_set (Heap.get?_push_of_some _ hS), ⟨fun p h => (by cases h), fun p h => (by simp at h), Nat.le_refl _⟩⟩ fun s' L es ep t hm hS' g' keep => ?_
          obtain ⟨h', g2, d', tk', os'⟩ := s'
          obtain rfl : g2 = s.gens := hm.gens
          obtain rfl : d' = s.drawn := hm.drawn
          obtain rfl : os' = s.os := hm.os
          show wpAny _ _ _ _ _ _
          refine wpAny_pure ?_
          show wpAny _ _ (ret Value.none) _ _ _
          rw [n0] at g'
          exact wpAny_pure ⟨rfl, h', tk', L, es, ep, t, rfl, hS', g', keep⟩
        · subst hO
          obtain ⟨⟨c1, d1, t1, l1⟩, ho, hc, nl, hd⟩ := id hl
          simp only at hc hd
          subst hc hd
          have ho' : (s.heap.push (set0 w)).get? l = some { cls := .type "tuple", dict := d1, data := .seq items nl, slots := l1 } := Heap.get?_push_of_some _ ho
          have f1 := F.sub_tuple_set
          have f2 := F.sub_tuple_frozenset
          have f3 : (Value.type "tuple" == Value.type "dict") = false := by decide
          have hl1 : (s.heap.push (set0 w)).IsTuple l items := ⟨_, ho', rfl, nl, rfl⟩
          unfold Builtin.«set.__init__» noKeywords Builtin.Frozenset.updateFrom
          generalize hPI : pyIter = PI
          wp_walk
          subst hPI
          refine wpAny_pyIter_tuple hl1 ?_
          refine wpAny_bind (wpAny_runValue ?_)
          refine update_T ((Walks.tuple hh3 _ l neI items).toS) s.heap.objs.size nS ks n0 few hval s.heap tr (none_of _ (Nat.le_refl _)) (fun b hb => none_of b (by rw [List.mem_singleton.mp hb, z1]; exact Nat.le_succ _)) (by show A.units + 1 + 1 + 1 + 8 < cLine; omega) (items.size - 0) 0 _ (by omega) (Nat.zero_le _)
            ⟨⟨_, Heap.get?_push_size _ rfl, rfl, rfl⟩, (hl1.push _)⟩ (fun b o e => Heap.get?_push_of_some _ (Heap.get?_push_of_some _ e)) ⟨[], #[], 0, _, fresh_set (Heap.get?_push_of_some _ hS), ⟨fun p h => (by cases h), fun p h => (by simp at h), Nat.le_refl _⟩⟩ fun s' L es ep t hm hS' g' keep => ?_
          obtain ⟨h', g2, d', tk', os'⟩ := s'
          obtain rfl : g2 = s.gens := hm.gens
          obtain rfl : d' = s.drawn := hm.drawn
          obtain rfl : os' = s.os := hm.os
          show wpAny _ _ _ _ _ _
          refine wpAny_pure ?_
          show wpAny _ _ (ret Value.none) _ _ _
          rw [n0] at g'
          exact wpAny_pure ⟨rfl, h', tk', L, es, ep, t, rfl, hS', g', keep⟩
      · cases r₂ with
        | error e => exact hr₂
        | ok fl₂ =>
          cases fl₂ with
          | ret r =>
            obtain ⟨rfl, h', tk, L, es, ep, t, rfl, hS', g', hk'⟩ := hr₂
            repeat (any_goals (first | assumption | wp_step))
            exact q _ _ _ _ _ _ hS' g' hk'
          | _ => exact hr₂.elim
    | _ => exact hr.elim
end
end LM

set_option Elab.async false
set_option linter.all false
set_option maxRecDepth 100000
set_option maxHeartbeats 3200000
/-! LmV: sorted(set(..)) by data. -/
namespace LM
open PySem PySem.Spec PyProof.Rows L2 Evl
theorem srt_asc : ∀ {l : List T}, T.Srt l → l.Nodup → T.Asc l
  | [], _, _ => List.Pairwise.nil
  | x :: l, h, n => by
    obtain ⟨h1, h2⟩ := List.pairwise_cons.mp h
    obtain ⟨n1, n2⟩ := List.nodup_cons.mp n
    refine List.pairwise_cons.mpr ⟨fun y hy => ?_, srt_asc h2 n2⟩
    cases c : T.lt x y with
    | true => rfl
    | false => exact absurd (T.lt_tot c (h1 y hy)) (fun e => n1 (e ▸ hy))
theorem sort_set {l m : List T} (n : l.Nodup) (e : ∀ x, x ∈ l ↔ x ∈ m) : T.sort l = T.set m :=
  T.set_of (srt_asc (T.sort_srt l) ((T.sort_perm l).nodup_iff.mpr n)) fun x => by rw [T.mem_sort, e]
section
variable {P : Program} {w : World} {A : Around} {E : Value → Shared → Prop} {s : Shared}
def adr : Value → Addr
  | .ref a => a
  | _ => 0
/-- sorted(a set of trees) -/
theorem sorted_setT {a : Addr} {L : List (Addr × T)} {es : Array (Int × Value)} {ep : Nat} {t : SetTable} {Q : Value → Shared → Prop} (R : SetTr w s.heap a L es ep t) (hh : A.handled = none) (hf : ∀ p ∈ L, full p.2 = true) (hu : A.units + 80 < cLine)
    (q : ∀ s' p (out : List Value) (c : Nat), (∀ b o, s.heap.get? b = some o → s'.heap.get? b = some o) → s'.gens = s.gens → s'.os = s.os → s.heap.objs.size ≤ p → s'.heap.get? p = some (seqObj "list" out.toArray c) → (out.map fun v => (adr v, tOf s.heap v)).Perm L → T.Srt (out.map (tOf s.heap)) → (∀ v ∈ out, ∃ p ∈ L, v = .ref p.1) → Q (.ref p) s') :
    wpAny (model P w) A (call (.builtin "sorted") [.ref a]) Q E s := by
  obtain ⟨o, ho, hex, hd⟩ := R.ob
  have few := R.few
  have l0 := rows_len R.rows
  refine Calls.call_function_entry kind_sorted plain_sorted entry_sorted (args_sorted1 _) ?_
  unfold Builtin.«sorted»
  refine wpAny_bind (m := checkCount "sorted" 1 1 _) (wpAny_pure ?_)
  refine wpAny_bind (collect_set (A := A.in1) hh ⟨o, ho, hex.1, hd⟩ R.ok (by rw [l0]; unfold scanBound; omega) R.tab.ris R.ld fun s1 vs k1 hz g1 o1 pm => ?_)
  have hes : es.toList.map (·.2) = L.map fun p => Value.ref p.1 := by rw [R.rows, List.map_map]; rfl
  rw [hes] at pm
  have lv : vs.length < 64 := by rw [pm.length_eq, List.length_map]; exact few
  have mem : ∀ v ∈ vs, ∃ p ∈ L, v = Value.ref p.1 := fun v hv => by
    obtain ⟨p, hp, e⟩ := List.mem_map.mp (pm.mem_iff.mp hv)
    exact ⟨p, hp, e.symm⟩
  have back : ∀ p ∈ L, (adr (Value.ref p.1), tOf s.heap (.ref p.1)) = p := fun p hp => by
    rw [tOf_eq (R.tup p hp).1]; rfl
  -- the trees of the values, in their order
  have tr1 : ∀ us : List Value, (∀ v ∈ us, ∃ p ∈ L, v = Value.ref p.1) → ∀ h' : Heap, (∀ b o, s.heap.get? b = some o → h'.get? b = some o) → IsTs h' (us.map (tOf s.heap)) us := by
    intro us
    induction us with
    | nil => intro _ _ _; exact .nil
    | cons v us ih =>
      intro hv h' hk
      obtain ⟨p, hp, rfl⟩ := hv v List.mem_cons_self
      have x := (R.tup p hp).1
      rw [List.map_cons]
      refine .cons ?_ (ih (fun u hu => hv u (List.mem_cons_of_mem _ hu)) h' hk)
      rw [tOf_eq x]
      exact x.keep (fun b o e _ => hk b o e) _ _
  have tmem : ∀ t ∈ vs.map (tOf s.heap), full t = true ∧ t.depth ≤ 8 := fun t ht => by
    obtain ⟨v, hv, rfl⟩ := List.mem_map.mp ht
    obtain ⟨p, hp, rfl⟩ := mem v hv
    rw [tOf_eq (R.tup p hp).1]
    exact ⟨hf p hp, (R.tup p hp).2⟩
  refine wpAny_bind (wpAny_newList ?_ (by rw [sizeLine_eq]; omega))
  have hoL : (s1.heap.push (seqObj "list" vs.toArray 0)).get? s1.heap.objs.size = some (seqObj "list" vs.toArray 0) := Heap.get?_push_size _ rfl
  have k2 : ∀ b o, s.heap.get? b = some o → (s1.heap.push (seqObj "list" vs.toArray 0)).get? b = some o := fun b o e => Heap.get?_push_of_some _ (k1 b o e)
  refine wpAny_bind (wpAny_holding (wpAny_call_entry slot_list_sort ⟨_, hoL, rfl⟩ entry_list_sort (SrtO.list_sort_ord (s := { s1 with heap := s1.heap.push (seqObj "list" vs.toArray 0) }) (swo_T s.heap) hoL (by rw [sizeLine_eq]; omega) (fun h2 => ?_) fun out hs hb => ⟨_, rfl, ?_⟩) (args_list_sort _)))
  · refine sortable_T (s := { s1 with heap := s1.heap.push (seqObj "list" vs.toArray 0) }) (by omega) (tr1 vs mem _ k2) (fun t ht => (tmem t ht).1) (T.depths_le fun t ht => Nat.le_trans (tmem t ht).2 (by decide)) (by show A.units + 1 + 1 + 62 < cLine; omega) s.heap (fun v hv => ?_) fun o' e c => ?_
    · obtain ⟨p, hp, rfl⟩ := mem v hv
      have x := (R.tup p hp).1
      rw [tOf_eq x]
      exact (tOf_eq (x.keep (fun b o e _ => k2 b o e) _ _)).symm
    · have e' : some o' = some (seqObj "list" vs.toArray 0) := e.symm.trans hoL
      cases e'
      exact absurd (Value.type.inj c) (by decide)
  · obtain ⟨c, hc⟩ := sortedHeap_at (vs := vs) (out := out.toArray) hoL
    have mo : ∀ v ∈ out, ∃ p ∈ L, v = Value.ref p.1 := fun v hv => mem v (hb.perm.mem_iff.mp hv)
    have pL : (out.map fun v => (adr v, tOf s.heap v)).Perm L := by
      have h1 := (hb.perm.trans pm).map (fun v => (adr v, tOf s.heap v))
      rw [List.map_map] at h1
      have e : L.map ((fun v => (adr v, tOf s.heap v)) ∘ fun p => Value.ref p.1) = L := by
        conv => rhs; rw [← List.map_id L]
        exact List.map_congr_left fun p hp => back p hp
      rwa [e] at h1
    have ss : T.Srt (out.map (tOf s.heap)) := List.pairwise_map.mpr (hs.imp fun {a b} h => h)
    refine wpAny_pure ⟨_, rfl, q _ s1.heap.objs.size out c (fun b u e => ?_) g1 o1 hz hc pL ss mo⟩
    have e1 := k1 b u e
    have lt := Heap.lt_size e1
    show (sortedHeap (s1.heap.push (seqObj "list" vs.toArray 0)) s1.heap.objs.size vs out.toArray).get? b = some u
    rw [sortedHeap_old (Nat.ne_of_lt lt) (by rw [size_push']; exact Nat.lt_succ_of_lt lt)]
    exact Heap.get?_push_of_some _ e1
end

/-! ### as objects of the heap that is tracked -/
structure SetT0' (w : World) (h : Heap) (a : Addr) (L : List (Addr × T)) : Prop where
  ex : ∃ (es : Array (Int × Value)) (ep : Nat) (t : SetTable), (∃ o, h.get? a = some o ∧ o.ExactSet ∧ o.data = .set es ep t) ∧ es.toList = L.map (ent w) ∧ TabOk t (L.map fun p => hT w p.2) ∧ (L.map (·.2)).Nodup ∧ t.plain = true ∧
    (w.params.followText "set-order" = true ∨ t.led = true) ∧ L.length * 5 < t.mask * 3 ∧ L.length < 64
def SetTo (w : World) (a : Addr) (L : List (Addr × T)) : HO := .ext fun h => SetT0' w h a L
theorem SetTr.bare {w : World} {h : Heap} {a : Addr} {L : List (Addr × T)} {es : Array (Int × Value)} {ep : Nat} {t : SetTable} (R : SetTr w h a L es ep t) : SetT0' w h a L := ⟨es, ep, t, R.ob, R.rows, R.tab, R.nd, R.pl, R.ld, R.room, R.few⟩
theorem SetT0'.full {w : World} {h : Heap} {a : Addr} {L : List (Addr × T)} (R : SetT0' w h a L) (tr : Trees h L) : ∃ es ep t, SetTr w h a L es ep t := by
  obtain ⟨es, ep, t, h1, h2, h3, h4, h5, h6, h7, h8⟩ := R.ex
  exact ⟨es, ep, t, h1, h2, h3, h4, tr, h5, h6, h7, h8⟩
theorem setTo_ok {P : Program} {w : World} {H : Hp} {h : Heap} {a : Addr} {L : List (Addr × T)} (R : SetT0' w h a L) : ObjOk P w H h a (SetTo w a L) := by
  obtain ⟨es, ep, t, ⟨o, ho, r⟩, z⟩ := R.ex
  refine ⟨R, ⟨o, ho⟩, fun h1 h2 p k => ?_⟩
  obtain ⟨es', ep', t', ⟨o', ho', r'⟩, z'⟩ := SetT0'.ex p
  exact ⟨es', ep', t', ⟨o', k o' ho', r'⟩, z'⟩
/-- trees at their addresses -/
theorem zip_T {K : PySem.W.Frag} {H : Hp} : ∀ {ts : List T} {vs : List V} {us : List Value}, DpAll K H vs (ts.map T.data) → Vals vs us → ∃ ks : List (Addr × T), ks.map (·.2) = ts ∧ vs = ks.map (fun p => V.ref p.1) ∧ us = ks.map fun p => Value.ref p.1
  | [], _, _, h, r => by cases h; cases r; exact ⟨[], rfl, rfl, rfl⟩
  | t :: ts, _, _, h, r => by
    rw [List.map_cons] at h
    cases h with
    | cons h1 h2 =>
      cases r with
      | cons r1 r2 =>
        obtain ⟨ks, e1, e2, e3⟩ := zip_T h2 r2
        obtain ⟨a, rfl⟩ := dpT_ref h1
        cases r1
        exact ⟨(a, t) :: ks, by rw [List.map_cons, e1], by rw [List.map_cons, ← e2], by rw [List.map_cons, ← e3]⟩
theorem dps_ks {K : PySem.W.Frag} {H : Hp} : ∀ {ks : List (Addr × T)}, DpAll K H (ks.map fun p => V.ref p.1) ((ks.map (·.2)).map T.data) → ∀ p ∈ ks, Dp K H (.ref p.1) p.2.data
  | [], _, p, hp => by cases hp
  | k :: ks, h, p, hp => by
    rw [List.map_cons, List.map_cons, List.map_cons] at h
    cases h with
    | cons h1 h2 =>
      rcases List.mem_cons.mp hp with e | hp
      · rw [e]; exact h1
      · exact dps_ks h2 p hp
/-- set(xs) -/
def rSetOf (K : PySem.W.Frag) (w : World) : List V → Hp → VK → Prop := fun xs H Q => ∃ (l : Addr) (vs : List V) (ts : List T), xs = [.ref l] ∧ (SqL K H l vs ∨ SqT K H l vs) ∧ DpAll K H vs (ts.map T.data) ∧ T.depths ts ≤ 8 ∧ ts.length < 64 ∧
  ∀ (a : Addr) (L : List (Addr × T)), H a = none → (∀ Hm, Ex Hm H → DpAll K Hm vs (ts.map T.data) → ∀ p ∈ L, Dp K Hm (.ref p.1) p.2.data) → (∀ x, x ∈ L.map (·.2) ↔ x ∈ ts) → Q (.ref a) (upd H a (SetTo w a L))
/-- sorted(a set) -/
def rSortSet (K : PySem.W.Frag) (w : World) : List V → Hp → VK → Prop := fun xs H Q => ∃ (a : Addr) (L : List (Addr × T)), xs = [.ref a] ∧ H a = some (SetTo w a L) ∧ (∀ p ∈ L, Dp K H (.ref p.1) p.2.data ∧ full p.2 = true ∧ p.2.depth ≤ 8) ∧
  ∀ (p : Addr) (ys : List V), H p = none → (∀ Hm, Ex Hm H → (∀ p ∈ L, Dp K Hm (.ref p.1) p.2.data) → ∀ ts, (∀ x, x ∈ L.map (·.2) ↔ x ∈ ts) → DpAll K Hm ys ((T.set ts).map T.data)) → Q (.ref p) (upd H p (.lst ys))
section
variable {X : Cx}
theorem cr_setTr (hc : X.calm = true) (hu : X.A.units + 20 < cLine) : CallR X (.type "set") (rSetOf X.K X.w) := by
  intro pins s σ H xs us Q I r h
  obtain ⟨l, vs, ts, rfl, hl, hd, dep, few, q⟩ := h
  rw [Vals.ref1 r]
  obtain ⟨its, rv, hrow⟩ : ∃ its : List Value, Vals vs its ∧ Row s.heap l its.toArray := by
    rcases hl with hl | hl
    · obtain ⟨its, rv, p, _⟩ := I.list hl
      exact ⟨its, rv, .inl p.isList⟩
    · obtain ⟨its, rv, ⟨o, ho, hcl, n, hd⟩, _⟩ := I.tuple hl
      exact ⟨its, rv, .inr ⟨o, ho, hcl, n, hd⟩⟩
  obtain ⟨ks, e1, e2, e3⟩ := zip_T hd rv
  subst e1
  have dks : ∀ p ∈ ks, Dp X.K H (.ref p.1) p.2.data := dps_ks (by rw [← e2]; exact hd)
  have tr : Trees s.heap ks := fun p hp => ⟨isT_of I _ _ _ (dks p hp) (show RelV (.ref p.1) (.ref p.1) from rfl), Nat.le_trans (T.depth_mem (List.mem_map.mpr ⟨p, hp, rfl⟩)) dep⟩
  have hn : H s.heap.objs.size = none := I.hok.fresh (Nat.le_refl _)
  refine call_setT (P := X.prog) (w := X.w) ks (I.ok.hd hc) hrow (by rw [List.toList_toArray]; exact e3) tr (by rw [List.length_map] at few; exact few) hu fun h' tk L es ep t R g k => ?_
  refine ⟨.ref s.heap.objs.size, upd H s.heap.objs.size (SetTo X.w s.heap.objs.size L), I.laid (t' := tk) k (Nat.le_refl _) (setTo_ok R.bare), rfl, q _ L hn (fun Hm em hdm p hp => ?_) fun x => ⟨fun hx => ?_, fun hx => ?_⟩⟩
  · exact dps_ks (by rw [← e2]; exact hdm) p (List.mem_of_mem_take (g.sub p hp))
  · obtain ⟨p, hp, rfl⟩ := List.mem_map.mp hx
    exact List.mem_map.mpr ⟨p, List.mem_of_mem_take (g.sub p hp), rfl⟩
  · obtain ⟨p, hp, rfl⟩ := List.mem_map.mp hx
    exact g.all p (by rw [List.take_length]; exact hp)
theorem cr_sortSet (hc : X.calm = true) (hu : X.A.units + 80 < cLine) : CallR X (.builtin "sorted") (rSortSet X.K X.w) := by
  intro pins s σ H xs us Q I r h
  obtain ⟨a, L, rfl, ha, hL, q⟩ := h
  have R0 : SetT0' X.w s.heap a L := (I.hok a _ ha).1
  have tr : Trees s.heap L := fun p hp => ⟨isT_of I _ _ _ (hL p hp).1 (show RelV (.ref p.1) (.ref p.1) from rfl), (hL p hp).2.2⟩
  obtain ⟨es, ep, t, R⟩ := R0.full tr
  rw [Vals.ref1 r]
  refine sorted_setT R (I.ok.hd hc) (fun p hp => (hL p hp).2.1) hu fun s' p out c k g o hp hg pm ss mo => ?_
  have lo : out.length = L.length := by have := pm.length_eq; rwa [List.length_map] at this
  have few := R.few
  have refs : ∀ v ∈ out, ∃ b, v = Value.ref b := fun v hv => by obtain ⟨p, _, e⟩ := mo v hv; exact ⟨_, e⟩
  have hv : Vals (out.map backV) out := vals_back refs
  have hn : H p = none := I.hok.fresh hp
  have hlen : (out.map backV).length ≤ sizeLine := by rw [List.length_map, sizeLine_eq]; omega
  have J : Inv X pins σ (upd H p (.lst (out.map backV))) { s with heap := s'.heap, gens := s'.gens, drawn := s'.drawn, toks := s'.toks } :=
    I.call (ch := []) (Un.laid k hp hn) (I.hok.laid k hp ⟨hlen, out, c, hv, hg⟩) (by rw [g]; exact I.bare) (fun _ z => nomatch z)
  have e : s' = { s with heap := s'.heap, gens := s'.gens, drawn := s'.drawn, toks := s'.toks } := by
    cases s'
    cases s
    cases o
    rfl
  rw [e]
  refine ⟨.ref p, _, J, rfl, q p _ hn fun Hm em hd ts hts => ?_⟩
  have et : out.map (tOf s.heap) = T.set ts := by
    have p2 := pm.map Prod.snd
    rw [List.map_map] at p2
    have p3 : (out.map (tOf s.heap)).Perm (L.map (·.2)) := p2
    exact T.set_of (srt_asc ss (p3.nodup_iff.mpr R.nd)) fun x => by rw [p3.mem_iff, hts]
  rw [← et, List.map_map]
  refine dps_map fun u hu => ?_
  obtain ⟨p, hp, rfl⟩ := mo u hu
  show Dp X.K Hm (.ref p.1) (T.data (tOf s.heap (.ref p.1)))
  rw [tOf_eq (R.tup p hp).1]
  exact hd p hp
end
theorem cr_setK (K : PySem.W.Frag) (w : World) {X : Cx} (h : X.K = K) (h2 : X.w = w) (hc : X.calm = true) (hu : X.A.units + 20 < cLine) : CallR X (.type "set") (rSetOf K w) := h ▸ h2 ▸ cr_setTr hc hu
theorem cr_sortSetK (K : PySem.W.Frag) (w : World) {X : Cx} (h : X.K = K) (h2 : X.w = w) (hc : X.calm = true) (hu : X.A.units + 80 < cLine) : CallR X (.builtin "sorted") (rSortSet K w) := h ▸ h2 ▸ cr_sortSet hc hu
/-- sorted(set(e)) -/
theorem el_sortSet {K : PySem.W.Frag} {w : World} {ρ : Rho} {te : TE} {ts : List T} {d : D} (h : ED K te ρ d) (hd : d = .list (ts.map T.data) ∨ d = .tuple (ts.map T.data)) (hf : ∀ t ∈ ts, full t = true) (dep : T.depths ts ≤ 8) (few : ts.length < 64) :
    EL K (tCB (rSortSet K w) (tCons (tCB (rSetOf K w) (tCons te tNil)) tNil)) ρ ((T.set ts).map T.data) := fun σ H Hm s l hs Q q =>
  h σ H Hm s l hs _ fun v H1 Hm1 g1 h1 => by
    obtain ⟨b, vs, rfl, hb, hv⟩ : ∃ b vs, v = .ref b ∧ (SqL K Hm1 b vs ∨ SqT K Hm1 b vs) ∧ DpAll K Hm1 vs (ts.map T.data) := by
      rcases hd with e | e
      · subst e
        obtain ⟨b, vs, e, h1, h2⟩ := dp_lst h1
        exact ⟨b, vs, e, .inl h1, h2⟩
      · subst e
        obtain ⟨b, vs, e, h1, h2⟩ := dp_tup h1
        exact ⟨b, vs, e, .inr h1, h2⟩
    refine ⟨b, vs, ts, rfl, hb.imp (ex_l g1.sub) (ex_t g1.sub), hv.mono g1.sub, dep, few, fun a L na hL mL => ?_⟩
    have dL := hL Hm1 g1.sub hv
    have ga : Gr H1 Hm1 (upd H1 a (SetTo w a L)) Hm1 := Gr.priv g1.sub na
    refine ⟨a, L, rfl, upd_same, fun p hp => ⟨(dL p hp).mono ga.sub, ?_, ?_⟩, fun p ys np hy => ?_⟩
    · exact hf _ ((mL _).mp (List.mem_map.mpr ⟨p, hp, rfl⟩))
    · exact Nat.le_trans (T.depth_mem ((mL _).mp (List.mem_map.mpr ⟨p, hp, rfl⟩))) dep
    · have gp : Gr (upd H1 a (SetTo w a L)) Hm1 (upd (upd H1 a (SetTo w a L)) p (.lst ys)) Hm1 := Gr.priv ga.sub np
      exact q p ys _ Hm1 ((g1.trans ga).trans gp) (fresh_back (g1.ex.trans ga.ex) np) (fresh_back ga.sub np) upd_same (hy Hm1 ga.sub dL ts mL)
end LM
namespace LM
open PySem PySem.Spec PyProof.Rows L2 Evl
theorem hu80 {A : Around} {k : Nat} (hr : Room k A) : A.units + 80 < cLine := by have := hr.un; omega
theorem hu20 {A : Around} {k : Nat} (hr : Room k A) : A.units + 20 < cLine := by have := hr.un; omega
end LM

set_option Elab.async false
set_option linter.all false
set_option maxRecDepth 100000
set_option maxHeartbeats 1000000
/-! Lm6: operators whose operands are of several kinds, told as one reading each; zip; join; extend. -/
namespace LM
open PySem PySem.Spec PyProof.Rows L2 Evl
abbrev orR (r r' : R2) : R2 := fun x y H Q => r x y H Q ∨ r' x y H Q
section
variable {K : PySem.W.Frag} {r r' : R2} {a b c : D} {cs : List D}
theorem rd_l (h : RD K r a b c) : RD K (orR r r') a b c := fun H Hm x y s hx hy Q q => .inl (h H Hm x y s hx hy Q q)
theorem rd_r (h : RD K r' a b c) : RD K (orR r r') a b c := fun H Hm x y s hx hy Q q => .inr (h H Hm x y s hx hy Q q)
theorem rl_l (h : RL K r a b cs) : RL K (orR r r') a b cs := fun H Hm x y s hx hy Q q => .inl (h H Hm x y s hx hy Q q)
theorem rl_r (h : RL K r' a b cs) : RL K (orR r r') a b cs := fun H Hm x y s hx hy Q q => .inr (h H Hm x y s hx hy Q q)
theorem rd_rl (h : RL K r a b cs) : RD K r a b (.list cs) := fun H Hm x y s hx hy Q q =>
  h H Hm x y s hx hy Q fun p vs H2 Hm2 g hp hm h2 hd => q _ H2 _ (g.show hp hm h2) (.lst (.inl (.inl upd_same)) (hd.mono (Ex.new hm)))
end

/-! ### + -/
section
variable {X : Cx}
/-- list + list, of any lists -/
def rCatL (K : PySem.W.Frag) : R2 := fun x y H Q => ∃ a b xs ys, x = .ref a ∧ y = .ref b ∧ SqL K H a xs ∧ SqL K H b ys ∧ xs.length + ys.length ≤ sizeLine ∧ ∀ p, H p = none → Q (.ref p) (upd H p (.lst (xs ++ ys)))
theorem op_catL : OpR X (binaryOp .Add) (rCatL X.K) := by
  intro pins s σ H x y v u Q I rx ry ⟨a, b, xs, ys, ex, ey, ha, hb, hz, q⟩
  subst ex ey
  cases rx
  cases ry
  obtain ⟨i1, r1, p1, _⟩ := I.list ha
  obtain ⟨i2, r2, p2, _⟩ := I.list hb
  obtain ⟨⟨k1, e1, t1, l1⟩, w1, z1, n1, m1⟩ := p1.isList
  obtain ⟨⟨k2, e2, t2, l2⟩, w2, z2, n2, m2⟩ := p2.isList
  simp only at z1 m1 z2 m2
  subst z1 m1 z2 m2
  have hsz : i1.toArray.size + i2.toArray.size ≤ sizeLine := by
    rw [List.size_toArray, List.size_toArray, ← r1.length, ← r2.length]; exact hz
  refine concat_meets ⟨_, w1, rfl⟩ ⟨_, w2, rfl⟩ noFill_list_add seq_list_add PySem.F.slot_list_add PySem.F.entry_list_add (PySem.F.args_list_add_2 _ _) (list_addW a b _ _ _ _ _ _ _ _ hsz) ⟨w1, w2, ?_⟩
  have ea : i1.toArray ++ i2.toArray = (i1 ++ i2).toArray := by simp
  rw [ea]
  exact ⟨.ref _, _, I.lnew (t' := s.toks) (r1.append r2) (by rw [List.length_append]; exact hz), rfl, q _ I.fresh⟩
abbrev rCatS : R2 := fun x y H Q => ∃ i j, x = .str i ∧ y = .str j ∧ i.length + j.length ≤ sizeLine ∧ Q (.str (i ++ j)) H
abbrev rAddI : R2 := rI0 fun i j => .int (i + j)
abbrev rAddU (K : PySem.W.Frag) : R2 := orR rAddI (orR (rCatA K) (orR rCatS (rCatL K)))
theorem op_addU : OpR X (binaryOp .Add) (rAddU X.K) := op_add.or (op_catA.or (op_add_str.or op_catL))
end
section
variable {K : PySem.W.Frag}
theorem rl_catL {xs ys : List D} (hz : xs.length + ys.length ≤ 100000) : RL K (rCatL K) (.list xs) (.list ys) (xs ++ ys) := fun H Hm x y s hx hy Q q => by
  obtain ⟨a, vs, rfl, hs, ha⟩ := dp_lst hx
  obtain ⟨b, ws, rfl, ht, hb⟩ := dp_lst hy
  exact ⟨a, b, vs, ws, rfl, rfl, ex_l s hs, ex_l s ht, sz_of (by rw [ha.len, hb.len]; exact hz), fun p hp => q p _ _ Hm (Gr.priv s hp) hp (fresh_back s hp) upd_same (ha.app hb)⟩
theorem rd_catS {i j : Str} (hz : i.length + j.length ≤ 1000000) : RD K rCatS (.str i) (.str j) (.str (i ++ j)) := fun H Hm x y s hx hy Q q =>
  ⟨i, j, dp_str hx, dp_str hy, Nat.le_trans hz (by decide), q _ H Hm (Gr.refl s) (.str _)⟩
theorem rd_addI {i j : Int} : RD K (rAddU K) (.int i) (.int j) (.int (i + j)) := rd_l rd_add
theorem rd_addT {xs ys : List D} (hz : xs.length + ys.length ≤ 100000) : RD K (rAddU K) (.tuple xs) (.tuple ys) (.tuple (xs ++ ys)) := rd_r (rd_l (rd_catT hz))
theorem rd_addS {i j : Str} (hz : i.length + j.length ≤ 1000000) : RD K (rAddU K) (.str i) (.str j) (.str (i ++ j)) := rd_r (rd_r (rd_l (rd_catS hz)))
theorem rl_addL {xs ys : List D} (hz : xs.length + ys.length ≤ 100000) : RL K (rAddU K) (.list xs) (.list ys) (xs ++ ys) := rl_r (rl_r (rl_r (rl_catL hz)))
end

/-! ### * -/
section
variable {X : Cx}
/-- the empty tuple times an int -/
def rRepE (K : PySem.W.Frag) : R2 := fun x y H Q => ∃ l k, x = .ref l ∧ y = .int k ∧ SqT K H l [] ∧ 2 ≤ k ∧ k ≤ 1000 ∧ Q (.ref l) H
theorem tuple_mulE (l : Addr) (items : Array Value) (n : Nat) (dd : Option Addr) (sl : Array (Option Value)) (x : Int) (u : Tok) (c0 : (decide (x < -(2 ^ 63)) || decide (x ≥ 2 ^ 63)) = false) (c1 : (items.isEmpty || x == 1) = true) :
    Meets (Builtin.«tuple.__mul__» ⟨[.ref l, .int x u], []⟩) (fun _ R s => s.heap.get? l = some { cls := .type "tuple", dict := dd, data := .seq items n, slots := sl } ∧ R (.ok (.ret (Value.ref l))) s) :=
  .of_wp fun prog w A R s h => by
    obtain ⟨hp, g, d, tk, os⟩ := s
    obtain ⟨hl, h⟩ := h
    have f1 := AutoSeq1.idx_int
    have f2 := AutoSeq1.sub_tuple_tuple
    wp_walk using wpAny_loadPart' hl
    repeat (first
      | (refine wpAny_ite_false (decide_eq_false (by rw [c0]; exact Bool.false_ne_true)) ?_; wp_walk using wpAny_loadPart' hl)
      | (refine wpAny_ite_true (decide_eq_true c1) ?_; wp_walk using wpAny_loadPart' hl))
    exact ⟨_, rfl, h⟩
theorem op_repE : OpR X (binaryOp .Mult) (rRepE X.K) := by
  intro pins s σ H x y v u Q I rx ry ⟨l, k, ex, ey, hT, h1, h2, q⟩
  subst ex ey
  cases rx
  obtain ⟨t, rfl⟩ := ry
  obtain ⟨its, r, ⟨⟨cls, dd, data, sl⟩, ho, hc, n, hd⟩, hs⟩ := I.tuple hT
  simp only at hc hd
  subst hc hd
  cases r
  have c0 : (decide (k < -(2 ^ 63)) || decide (k ≥ 2 ^ 63)) = false := by
    rw [decide_eq_false (by omega), decide_eq_false (by omega)] <;> rfl
  refine wpAny_binaryOp_repeat_ref (T := "tuple") (U := "int") (by decide) ⟨_, ho, rfl⟩ (fun s' => typeIs_int s' k t) noFill_tuple_mul F.fills_int_mul F.slot_int_rmul repeat_tuple F.slot_int_index.lookup
    (call_meets F.slot_int_rmul (typeIs_int s k t) F.entry_int_rmul (F.args_int_rmul_2 _ _) (int_rmul_tuple k t l _ n dd sl)
      ⟨ho, rfl, ⟨_, ho, rfl⟩, call_meets F.slot_tuple_mul ⟨_, ho, rfl⟩ F.entry_tuple_mul (F.args_tuple_mul_2 _ _) (tuple_mulE l _ n dd sl k t c0 rfl) ⟨ho, ⟨.ref l, H, I, rfl, q⟩⟩⟩)
abbrev rMulI : R2 := rI CMul fun i j => .int (i * j)
abbrev rMulU (K : PySem.W.Frag) : R2 := orR rMulI (orR (rRepT K) (rRepE K))
theorem op_mulU : OpR X (binaryOp .Mult) (rMulU X.K) := op_mul.or (op_repT.or op_repE)
end
section
variable {K : PySem.W.Frag}
theorem rd_mulI {i j : Int} (h : CMul i j) : RD K (rMulU K) (.int i) (.int j) (.int (i * j)) := rd_l (rd_mul h)
theorem dps_flat {H : Hp} {vs : List V} {ds : List D} (h : DpAll K H vs ds) : ∀ k : Nat, DpAll K H (List.replicate k vs).flatten (List.replicate k ds).flatten
  | 0 => .nil
  | k + 1 => by
    show DpAll K H (vs ++ (List.replicate k vs).flatten) (ds ++ (List.replicate k ds).flatten)
    exact h.app (dps_flat h k)
theorem flat_nil {α : Type} : ∀ k : Nat, (List.replicate k ([] : List α)).flatten = []
  | 0 => rfl
  | k + 1 => by
    show [] ++ (List.replicate k ([] : List α)).flatten = []
    rw [flat_nil k]; rfl
theorem rd_mulT {xs : List D} {k : Int} (h1 : 2 ≤ k) (h2 : k ≤ 1000) (hz : xs.length ≤ 1000) : RD K (rMulU K) (.tuple xs) (.int k) (.tuple (List.replicate k.toNat xs).flatten) := fun H Hm x y s hx hy Q q => by
  obtain ⟨a, vs, rfl, hs, ha⟩ := dp_tup hx
  have hy' := dp_int hy
  subst hy'
  cases xs with
  | nil =>
    cases ha
    refine .inr (.inr ⟨a, k, rfl, rfl, ex_t s hs, h1, h2, ?_⟩)
    rw [flat_nil] at q
    exact q _ H Hm (Gr.refl s) (.tup hs .nil)
  | cons d ds =>
    refine .inr (.inl ⟨a, k, vs, rfl, rfl, ex_t s hs, ?_, h1, h2, by rw [ha.len]; exact hz, fun p hp => ?_⟩)
    · intro e
      have := ha.len
      rw [e] at this
      cases this
    · exact q _ _ _ (Gr.new s hp) (.tup (.inl (.inl upd_same)) (dps_flat (ha.mono (Ex.new (fresh_back s hp))) _))
end

/-! ### x[i] of any -/
section
variable {K : PySem.W.Frag}
theorem rd_ixUL {ds : List D} {i : Int} {d : D} (h : atI ds i = some d) : RD K (rIx K) (.list ds) (.int i) d := fun H Hm x y s hx hy Q q => .inl (rd_ixL h H Hm x y s hx hy Q q)
theorem rd_ixUT {ds : List D} {i : Int} {d : D} (h : atI ds i = some d) : RD K (rIx K) (.tuple ds) (.int i) d := fun H Hm x y s hx hy Q q => .inr (.inl (rd_ixT h H Hm x y s hx hy Q q))
end

/-! ### x[lo:hi] of any -/
abbrev rSlU (K : PySem.W.Frag) : V → Option Int → Option Int → Hp → VK → Prop := fun x lo hi H Q => rSlA K x lo hi H Q ∨ rSlL K x lo hi H Q ∨ C8.rSlX x lo hi H Q
theorem sl_u {X : Cx} : SlR X (rSlU X.K) := sl_tupA.or (sl_list.or C8.sl_txt)
section
variable {K : PySem.W.Frag} {ρ : Rho} {te : TE} {tl th : TO} {lo hi : Option Int} {ds : List D}
theorem ed_slUT (h : ED K te ρ (.tuple ds)) (h1 : EO K tl ρ lo) (h2 : EO K th ρ hi) : ED K (tSl (rSlU K) te tl th) ρ (.tuple (cut ds lo hi)) := fun σ H Hm s l hs Q q => by
  have := ed_slT h h1 h2 σ H Hm s l hs Q q
  exact h σ H Hm s l hs _ fun v H1 Hm1 g1 d1 => h1 σ H1 Hm1 g1.sub l (hs.mono g1.em) _ fun H2 Hm2 g2 => h2 σ H2 Hm2 g2.sub l (hs.mono (g1.em.trans g2.em)) _ fun H3 Hm3 g3 => by
    obtain ⟨a, xs, rfl, hx, ha⟩ := dp_tup d1
    have g23 := g2.trans g3
    refine .inl ⟨a, xs, rfl, ex_t g3.sub (ex_t g23.em hx), fun e => ?_, fun _ p hp => ?_⟩
    · have e' : cut ds lo hi = ds := by
        unfold cut
        rw [← ha.len]
        rw [e.1, e.2, ha.len, List.drop_zero, Nat.sub_zero, List.take_length]
      rw [e'] at q
      exact q _ H3 Hm3 (g1.trans g23) (.tup (ex_t g23.em hx) (ha.mono g23.em))
    · exact q _ _ _ ((g1.trans g23).trans (Gr.new g3.sub hp)) (.tup (.inl (.inl upd_same)) (((cut_dp ha).mono g23.em).mono (Ex.new (fresh_back g3.sub hp))))
theorem el_slUL (h : ED K te ρ (.list ds)) (h1 : EO K tl ρ lo) (h2 : EO K th ρ hi) : EL K (tSl (rSlU K) te tl th) ρ (cut ds lo hi) := fun σ H Hm s l hs Q q =>
  h σ H Hm s l hs _ fun v H1 Hm1 g1 d1 => h1 σ H1 Hm1 g1.sub l (hs.mono g1.em) _ fun H2 Hm2 g2 => h2 σ H2 Hm2 g2.sub l (hs.mono (g1.em.trans g2.em)) _ fun H3 Hm3 g3 => by
    obtain ⟨a, xs, rfl, hx, ha⟩ := dp_lst d1
    have g23 := g2.trans g3
    exact .inr (.inl ⟨a, xs, rfl, ex_l g3.sub (ex_l g23.em hx), fun p hp => q p _ _ Hm3 ((g1.trans g23).trans (Gr.priv g3.sub hp)) (fresh_back (g1.ex.trans g23.ex) hp) (fresh_back g3.sub hp) upd_same ((cut_dp ha).mono g23.em)⟩)
theorem ed_slUS {z : Str} (h : ED K te ρ (.str z)) (h1 : EO K tl ρ lo) (h2 : EO K th ρ hi) (hz : z.length ≤ 1000000) : ED K (tSl (rSlU K) te tl th) ρ (.str (Txt.slice z lo hi)) := fun σ H Hm s l hs Q q =>
  h σ H Hm s l hs _ fun v H1 Hm1 g1 d1 => h1 σ H1 Hm1 g1.sub l (hs.mono g1.em) _ fun H2 Hm2 g2 => h2 σ H2 Hm2 g2.sub l (hs.mono (g1.em.trans g2.em)) _ fun H3 Hm3 g3 =>
    .inr (.inr ⟨z, dp_str d1, Nat.le_trans hz (by decide), q _ H3 Hm3 ((g1.trans g2).trans g3) (.str _)⟩)
end

/-! ### < and >= of ints, of trees -/
abbrev rLtI : R2 := rI0 fun i j => .bl (decide (i < j))
abbrev rGeI : R2 := rI0 fun i j => .bl (decide (j ≤ i))
abbrev rLtU (K : PySem.W.Frag) : R2 := orR rLtI (rLtTr K)
abbrev rGeU (K : PySem.W.Frag) : R2 := orR rGeI (rGeTr K)
section
variable {X : Cx}
theorem op_ltU (hu : X.A.units + 64 < cLine) : OpR X (compareOp .Lt) (rLtU X.K) := op_lt.or (op_ltTr hu)
theorem op_geU (hu : X.A.units + 64 < cLine) : OpR X (compareOp .GtE) (rGeU X.K) := op_ge.or (op_geTr hu)
end
section
variable {K : PySem.W.Frag}
theorem rd_ltI {i j : Int} : RD K (rLtU K) (.int i) (.int j) (.bool (decide (i < j))) := rd_l (rd_I0 (g' := fun i j => .bool (decide (i < j))) fun _ => .bl _)
theorem rd_geI {i j : Int} : RD K (rGeU K) (.int i) (.int j) (.bool (decide (j ≤ i))) := rd_l (rd_I0 (g' := fun i j => .bool (decide (j ≤ i))) fun _ => .bl _)
theorem rd_gtI {i j : Int} : RD K (rI0 fun i j => .bl (decide (j < i))) (.int i) (.int j) (.bool (decide (j < i))) := rd_I0 (g' := fun i j => .bool (decide (j < i))) fun _ => .bl _
theorem rd_ltT {s t : T} (h : min s.depth t.depth ≤ 60) : RD K (rLtU K) s.data t.data (.bool (T.lt s t)) := rd_r (rd_ltTr h)
theorem rd_geT {s t : T} (h : min s.depth t.depth ≤ 60) : RD K (rGeU K) s.data t.data (.bool (!T.lt s t)) := rd_r (rd_geTr h)
end

/-! ### all / any of zip(t, u) with a pair as target -/
section
variable {K : PySem.W.Frag} {ρ : Rho} {te : TE} {i j : Nat}
theorem lc_zipT {a b : Addr} {xs ys : List V} {g : TG} {tt : TT} {te : TE} {vs : List Nat} {σ : L2.St} {H1 : Hp} {Dl : Addr} {Qd : Hp → Prop} (hl : xs.length = ys.length) (Pv : Nat → Hp → Prop) (h0 : Pv 0 (upd H1 Dl (.lst []))) (hq : ∀ i H, Pv i H → SqT K H a xs ∧ SqT K H b ys)
    (hs : ∀ (i : Nat) (x y : V) (T : Addr) (H : Hp), xs[i]? = some x → ys[i]? = some y → Pv i H → H T = none → g (.ref T) (wipe σ vs) (upd H T (.tup [x, y])) fun σ2 H2 => wipe σ2 vs = wipe σ vs ∧ tt σ2 H2 fun b H3 =>
      if b = true then te σ2 H3 fun y H4 => ∃ acc, H4 Dl = some (.lst acc) ∧ acc.length < sizeLine ∧ Pv (i + 1) (upd H4 Dl (.lst (acc ++ [y]))) else Pv (i + 1) H3) (hd : ∀ H, Pv xs.length H → Qd H) :
    ∃ W : Nat → Nat → Hp → Prop, (∃ m, W 0 m (upd H1 Dl (.lst []))) ∧ ∀ i m H, W i m H →
      ((RZ.ItzT K a b).stop i H ∧ Qd H) ∨ ((RZ.ItzT K a b).go i H ∧ ∃ Nx : Hp → Prop, (∀ H', Nx H' → ∃ m', m' < m ∧ W (i + 1) m' H') ∧ ∀ x H', (RZ.ItzT K a b).yld i H x H' → g x (wipe σ vs) H' fun σ2 H2 => wipe σ2 vs = wipe σ vs ∧ tt σ2 H2 fun b H3 =>
        if b = true then te σ2 H3 fun y H4 => ∃ acc, H4 Dl = some (.lst acc) ∧ acc.length < sizeLine ∧ Nx (upd H4 Dl (.lst (acc ++ [y]))) else Nx H3) := by
  refine ⟨fun i m H => i + m = xs.length ∧ Pv i H, ⟨xs.length, Nat.zero_add _, h0⟩, fun i m H w => ?_⟩
  obtain ⟨hm, p⟩ := w
  obtain ⟨qx, qy⟩ := hq i H p
  rcases Nat.lt_or_ge i xs.length with hlt | hge
  · obtain ⟨x, hx⟩ : ∃ x, xs[i]? = some x := ⟨_, List.getElem?_eq_getElem hlt⟩
    obtain ⟨y, hy⟩ : ∃ y, ys[i]? = some y := ⟨_, List.getElem?_eq_getElem (hl ▸ hlt)⟩
    refine .inr ⟨⟨xs, ys, x, y, qx, qy, hx, hy⟩, Pv (i + 1), fun H' p' => ⟨m - 1, by omega, by omega, p'⟩, fun v H' yl => ?_⟩
    obtain ⟨T, x', y', e1, hT, e2, f1, f2⟩ := yl
    subst e1 e2
    exact hs i x' y' T H (f1 xs qx) (f2 ys qy) p hT
  · have e : i = xs.length := by omega
    subst e
    exact .inl ⟨⟨xs, ys, qx, qy, .inl (Nat.le_refl _)⟩, hd H p⟩
abbrev gPair (K : PySem.W.Frag) (i j : Nat) : TG := gTup K 2 (gCons (gName i) (gCons (gName j) gNil))
def zipm (f : D → D → D) : List D → List D → List D
  | x :: xs, y :: ys => f x y :: zipm f xs ys
  | _, _ => []
theorem zipm_len (f : D → D → D) : ∀ xs ys : List D, xs.length = ys.length → (zipm f xs ys).length = xs.length
  | [], [], _ => rfl
  | x :: xs, y :: ys, h => by
    show (zipm f xs ys).length + 1 = xs.length + 1
    rw [zipm_len f xs ys (by simpa using h)]
  | [], _ :: _, h => by cases h
  | _ :: _, [], h => by cases h
theorem zipm_get (f : D → D → D) : ∀ (xs ys : List D) (i : Nat) (x y : D), xs[i]? = some x → ys[i]? = some y → (zipm f xs ys)[i]? = some (f x y)
  | [], _, _, _, _, h, _ => by simp at h
  | _ :: _, [], _, _, _, _, h => by simp at h
  | a :: xs, b :: ys, 0, x, y, h1, h2 => by
    have e1 : a = x := Option.some.inj h1
    have e2 : b = y := Option.some.inj h2
    subst e1 e2
    rfl
  | a :: xs, b :: ys, i + 1, x, y, h1, h2 => zipm_get f xs ys i x y h1 h2
theorem el_lcZ {ta : TA} {xs ys : List D} (f : D → D → D) (hsrc : EDs K ta ρ [.tuple xs, .tuple ys]) (hl : xs.length = ys.length) (hz : xs.length ≤ 50000) (hij : i ≠ j)
    (he : ∀ (k : Nat) (x y : D), xs[k]? = some x → ys[k]? = some y → ED K te (((wipeR ρ [i, j]).set i (some x)).set j (some y)) (f x y)) :
    EL K (tLc (RZ.iZipA K ta) (gPair K i j) tYes te [i, j]) ρ (zipm f xs ys) := fun σ H Hm s l hs Q q => by
  refine hsrc σ H Hm s l hs _ fun vs H1 Hm1 g1 h1 => ?_
  obtain ⟨va, vb, rfl, da, db⟩ := dps2 h1
  obtain ⟨a, us, rfl, hx, ha⟩ := dp_tup da
  obtain ⟨b, ws, rfl, hy, hb⟩ := dp_tup db
  have la := ha.len
  have lb := hb.len
  refine ⟨a, b, us, ws, rfl, .inr ⟨ex_t g1.sub hx, ex_t g1.sub hy, fun Dl hD => ?_⟩⟩
  refine lc_zipT (xs := us) (ys := ws) (by omega) (fun k H' => Cp K H1 Hm1 Dl ((zipm f xs ys).take k) H') ?_ (fun k H' c => ?_) (fun k x y T H' hi hi2 c hT => ?_) (fun H' c => ?_)
  · exact ⟨Hm1, [], Gr.priv g1.sub hD, fresh_back g1.sub hD, upd_same, .nil⟩
  · obtain ⟨_, _, g, _⟩ := c
    exact ⟨ex_t g.sub (ex_t g.em hx), ex_t g.sub (ex_t g.em hy)⟩
  · obtain ⟨d, hd, hxd⟩ := ha.get' hi
    obtain ⟨d2, hd2, hyd⟩ := hb.get' hi2
    have hm := zipm_get f xs ys k d d2 hd hd2
    obtain ⟨Hm', acc, g, n1, n2, n3⟩ := c
    have gT : Gr H' Hm' (upd H' T (.tup [x, y])) Hm' := Gr.priv g.sub hT
    refine ⟨T, [x, y], rfl, .inl (.inl upd_same), rfl, x, [y], rfl, y, [], rfl, rfl, ?_, ?_⟩
    · show ((((((σ.set j none).set i none).set i (some x)).set j (some y)).set j none).set i none) = ((σ.set j none).set i none)
      apply List.ext_getElem?
      intro m
      simp only [List.getElem?_set, List.length_set]
      by_cases m1 : i = m <;> by_cases m2 : j = m <;> simp [m1, m2]
    · have l2 : (((wipeR ρ [i, j]).set i (some d)).set j (some d2)).length ≤ (((wipe σ [i, j]).set i (some x)).set j (some y)).length := by simp only [List.length_set, wipeR_length, wipe_length]; exact l
      have l3 : (wipeR ρ [i, j]).length ≤ (wipe σ [i, j]).length := by rw [wipeR_length, wipe_length]; exact l
      have S : Sd K Hm' (((wipe σ [i, j]).set i (some x)).set j (some y)) (((wipeR ρ [i, j]).set i (some d)).set j (some d2)) :=
        ((((hs.mono g1.em).mono g.em).wipe [i, j]).set l3 i (hxd.mono g.em)).set (by simp only [List.length_set]; exact l3) j (hyd.mono g.em)
      show tYes _ _ _
      refine (et_yes (K := K) (ρ := (((wipeR ρ [i, j]).set i (some d)).set j (some d2)))) _ _ Hm' gT.sub l2 S _ fun H3 Hm3 g3 => ?_
      simp only [if_true]
      refine he k d d2 hd hd2 _ H3 Hm3 g3.sub l2 (S.mono g3.em) _ fun z H4 Hm4 g4 hz4 => ?_
      have g5 := (gT.trans g3).trans g4
      have e4 : H4 Dl = some (.lst acc) := g5.ex _ _ n2
      have m4 : Hm4 Dl = none := g5.own _ _ n2 n1
      refine ⟨acc, e4, sz_lt (by rw [n3.len, List.length_take, zipm_len f xs ys hl]; omega), Hm4, acc ++ [z], ⟨?_, g.em.trans g5.em, ?_, (g.trans g5).own⟩, m4, upd_same, ?_⟩
      · exact Ex.mut (g.ex.trans g5.ex) hD
      · intro c o hc
        have : c ≠ Dl := fun e => by subst e; rw [m4] at hc; cases hc
        rw [upd_ne this]; exact g4.sub c o hc
      · rw [List.take_add_one, hm]
        exact (n3.mono g5.em).snoc hz4
  · rw [List.take_of_length_le (by rw [zipm_len f xs ys hl]; omega)] at c
    obtain ⟨Hm', acc, g, n1, n2, n3⟩ := c
    exact q Dl acc H' Hm' (g1.trans g) (fresh_back g1.ex hD) n1 n2 n3
end

/-! ### sep.join(list of texts) -/
section
variable {K : PySem.W.Frag}
abbrev rJoin (K : PySem.W.Frag) : V → List V → Hp → VK → Prop := fun x xs H Q => ∃ a p, ∃ ys : List Str, x = .str a ∧ xs = [.ref p] ∧ (SqL K H p (ys.map V.str) ∨ SqT K H p (ys.map V.str)) ∧ (ys.map (·.length)).sum + ys.length * a.length ≤ 16777216 ∧ Q (.str (Txt.join a ys)) H
theorem ed_join {ρ : Rho} {to te : TE} {a : Str} {ys : List Str} {ds : List D} (ho : ED K to ρ (.str a)) (he : ED K te ρ (.list ds)) (e : ds = ys.map PyData.str) (hz : (ys.map (·.length)).sum + ys.length * a.length ≤ 16777216) : ED K (tM1 (rJoin K) to te) ρ (.str (Txt.join a ys)) := fun σ H Hm s l hs Q q =>
  ho σ H Hm s l hs _ fun x H1 Hm1 g1 h1 => ⟨⟨a, dp_str h1⟩, he σ H1 Hm1 g1.sub l (hs.mono g1.em) _ fun y H2 Hm2 g2 h2 => by
    subst e
    obtain ⟨p, ws, rfl, hp, hd⟩ := dp_lst h2
    have := dp_strs hd
    subst this
    exact ⟨a, p, ys, dp_str h1, rfl, .inl (ex_l g2.sub hp), hz, q _ H2 Hm2 (g1.trans g2) (.str _)⟩⟩
end

/-! ### xs.extend(ys), ys any list or tuple -/
section
variable {X : Cx}
theorem extend_any (T : String) (hT : T = "list" ∨ T = "tuple") (l : Addr) (items : Array Value) (n : Nat) (b : Addr) (items2 : Array Value) (n2 : Nat) (dd2 : Option Addr) (sl2 : Array (Option Value)) (hc0 : ¬(!items.isEmpty && Builtin.List.listTooLong (items.size + items2.size)) = true) (hc1 : items.size ≤ sizeLine) (hs2 : (items ++ items2).size ≤ sizeLine + 1) :
    Meets (Builtin.«list.extend» ⟨[.ref l, .ref b], []⟩) (fun _ R s => s.heap.get? l = some { cls := .type "list", dict := none, data := .seq items n, slots := #[] } ∧ s.heap.get? b = some { cls := .type T, dict := dd2, data := .seq items2 n2, slots := sl2 } ∧
      R (.ok (.ret Value.none)) { s with heap := s.heap.update l (Obj.mapSeq fun x => x ++ items2), toks := s.toks }) :=
  .of_wp fun prog w A R s h => by
    obtain ⟨hp, g, d, tk, os⟩ := s
    obtain ⟨hl, hb, h⟩ := h
    have f1 := AutoSeq1.idx_int
    have f2 := AutoSeq1.sub_tuple_tuple
    have f3 := AutoSeq1.sub_list_list
    have f4 := AutoSeq1.sub_tuple_list
    have f5 := AutoSeq1.sub_list_tuple
    rcases hT with e | e
    · subst e
      wp_walk using (wpAny_updateSeq hl rfl (hz := hc1) (_hz' := hs2)), wpAny_loadPart' hl, wpAny_loadPart' hb
      exact ⟨_, rfl, h⟩
    · subst e
      wp_walk using (wpAny_updateSeq hl rfl (hz := hc1) (_hz' := hs2)), wpAny_loadPart' hl, wpAny_loadPart' hb
      exact ⟨_, rfl, h⟩
def rExtA (K : PySem.W.Frag) : V → List V → Hp → VK → Prop := fun x vs H Q => ∃ l b xs zs, x = .ref l ∧ vs = [.ref b] ∧ H l = some (.lst xs) ∧ (SqL K H b zs ∨ SqT K H b zs) ∧ xs.length + zs.length ≤ sizeLine ∧ Q .non (upd H l (.lst (xs ++ zs)))
theorem mt_extA : MtM X "list.extend" (rExtA X.K) := by
  intro pins s σ H x vs v us Q I rx rv ⟨l, b, xs, zs, ex, ev, hH, hB, hz, q⟩
  subst ex ev
  cases rx
  obtain ⟨u, rfl, ru⟩ := rv.one
  cases ru
  obtain ⟨z, its, n, r, hl, e⟩ := I.lstM hH
  obtain ⟨T, hT, its2, r2, ⟨cls2, dd2, dat2, sl2⟩, n2, ho2, hc2, hd2⟩ : ∃ T, (T = "list" ∨ T = "tuple") ∧ ∃ its2 : List Value, Vals zs its2 ∧ ∃ (o : Obj) (n2 : Nat), s.heap.get? b = some o ∧ o.cls = .type T ∧ o.data = .seq its2.toArray n2 := by
    rcases hB with hB | hB
    · obtain ⟨i2, r2, p2, _⟩ := I.list hB
      obtain ⟨o, ho, hc, n2, hd⟩ := p2.isList
      exact ⟨"list", .inl rfl, i2, r2, o, n2, ho, hc, hd⟩
    · obtain ⟨i2, r2, ⟨o, ho, hc, n2, hd⟩, _⟩ := I.tuple hB
      exact ⟨"tuple", .inr rfl, i2, r2, o, n2, ho, hc, hd⟩
  simp only at hc2 hd2
  subst hc2 hd2
  have l1 := r2.length
  have hsz : its.toArray.size + its2.toArray.size ≤ sizeLine := by rw [List.size_toArray, List.size_toArray, ← l1, ← hl]; exact hz
  have hlong : ¬ (!its.toArray.isEmpty && Builtin.List.listTooLong (its.toArray.size + its2.toArray.size)) = true := by
    rw [notLongL hsz, Bool.and_false]
    exact Bool.false_ne_true
  refine call_meets F.slot_list_extend ⟨_, e, rfl⟩ F.entry_list_extend (F.args_list_extend_2 _ _) (extend_any T hT l its.toArray n b its2.toArray n2 dd2 sl2 hlong (by omega) (by rw [Array.size_append]; omega)) ⟨e, ho2, ?_⟩
  refine ⟨.non, _, I.lset (its' := its ++ its2) hH e (by simp) (r.append r2) ?_, rfl, q⟩
  rw [List.length_append]
  exact hz
end
theorem imms_get : ∀ {es : List D} {d : D}, imms es = true → d ∈ es → imm d = true
  | [], _, _, h => by cases h
  | x :: xs, d, q, h => by
    simp only [imms, Bool.and_eq_true] at q
    rcases List.mem_cons.mp h with e | h
    · rw [e]; exact q.1
    · exact imms_get q.2 h
section
variable {K : PySem.W.Frag} {ρ : Rho} {te : TE} {i : Nat} {ds es : List D}
theorem xd_ext (h : ED K te (ρ.set i (some (.list ds))) (.list es)) (hd : imms es = true) (hz : ds.length + es.length ≤ 90000) :
    XD K (tDrop (tBM K "list" (rExtA K) (tVar i) (tCons te tNil))) ρ (some (i, ds)) (.nx ρ (some (i, ds ++ es))) := fun H0 Hm0 E σ H Hm S f => by
  obtain ⟨Hv, s1, s2, s3, s4, s5, s6⟩ := S.view
  obtain ⟨a, vs, h1, h2, h3, h4, h5, e⟩ := id s6
  refine ⟨.ref a, h1, .inl ⟨rfl, vs, .inl (.inl h4)⟩, ?_⟩
  refine h σ H Hv s1 s4 s3 _ fun v H2 Hv2 g hv => ?_
  obtain ⟨b, ws, rfl, hb, hw⟩ := dp_lst hv
  subst e
  have e2 : Hv2 a = some (.lst vs) := g.em _ _ upd_same
  obtain ⟨Hm2, em, S2, back⟩ := S.hide s2 s6 g
  obtain ⟨a', vs', k1, k2, k3, k4, k5⟩ := S2.own
  rw [h1] at k1
  cases k1
  rw [g.ex _ _ h4] at k4
  cases k4
  have hw2 : DpAll K Hm2 ws es := by
    refine DpAll.of_get hw.len fun k v d h1 h2 => ?_
    obtain ⟨d', hd', hv'⟩ := hw.get' h1
    rw [h2] at hd'
    cases hd'
    refine back v d (.inr ?_) hv'
    exact imms_get hd (List.mem_of_getElem? h2)
  refine ⟨a, b, vs, ws, rfl, rfl, g.ex _ _ h4, .inl (ex_l g.sub hb), ?_, ?_⟩
  · exact sz_of (by rw [h5.len, hw.len]; omega)
  · exact f _ _ Hm2 em (S2.put h1 k2 k3 (k5.app hw2))
end
end LM

set_option Elab.async false
set_option linter.all false
set_option maxRecDepth 100000
set_option maxHeartbeats 1000000
/-! Lm7: one rule for each word in front of a rest; names of the top; lists handed back. -/
namespace LM
open PySem PySem.Spec PyProof.Rows L2 Evl
section
variable {K : PySem.W.Frag} {ρ ρ' : Rho} {ω ω' : Om} {o : Out} {t u w : TS} {te : TE} {ta : TA} {tt : TT} {d : D} {ds es : List D} {i j : Nat}
theorem xd_ifs {b : Bool} (h : ET K tt (vw ρ ω) b) (h1 : b = true → XD K (tSeq t w) ρ ω o) (h2 : b = false → XD K (tSeq u w) ρ ω o) : XD K (tSeq (tIfS tt t u) w) ρ ω o := fun H0 Hm0 E σ H Hm S f => by
  obtain ⟨Hv, s1, s2, s3, s4, s5, s6⟩ := S.view
  refine h σ H Hv s1 s4 s3 _ fun H2 Hv2 g => ?_
  obtain ⟨Hm2, em, S2, back⟩ := S.hide s2 s6 g
  cases b with
  | true => exact h1 rfl H0 Hm0 E σ H2 Hm2 S2 (f.mono em)
  | false => exact h2 rfl H0 Hm0 E σ H2 Hm2 S2 (f.mono em)
theorem xd_assoc (h : XD K (tSeq t (tSeq u w)) ρ ω o) : XD K (tSeq (tSeq t u) w) ρ ω o := h
theorem xd_nexts (h : XD K w ρ ω o) : XD K (tSeq tNext w) ρ ω o := h
theorem xd_rets (h : ED K te (vw ρ ω) d) : XD K (tSeq (tRet te) w) ρ ω (.rt d) := xd_seq_rt (xd_ret h)
theorem xd_breaks : XD K (tSeq tBreak w) ρ ω (.bk ρ ω) := xd_seq_bk xd_break
/-- a call as a statement's expression whose value is dropped -/
theorem hide_none {H : Hp} : True := trivial
end

/-! ### what the top holds -/
structure BI (mg : Str → Option Value) : Prop where
  len : mg "len" = none
  range : mg "range" = none
  sorted : mg "sorted" = none
  set : mg "set" = none
  tuple : mg "tuple" = none
  list : mg "list" = none
  zip : mg "zip" = none
  all : mg "all" = none
  any : mg "any" = none
  sum : mg "sum" = none
  max : mg "max" = none
  min : mg "min" = none
  isinstance : mg "isinstance" = none
  int : mg "int" = none
  bool : mg "bool" = none
  str : mg "str" = none
  abs : mg "abs" = none
  enumerate : mg "enumerate" = none
  repr : mg "repr" = none
  ValueError : mg "ValueError" = none
theorem pe_const {X : Cx} {x : Str} {n : Int} {pos : Pos} (h : ∃ tk, X.mg x = some (.int n tk)) (hg : Gl X x) (hd : (x == ("__debug__" : Str)) = false := by decide) : PE X (.Name x pos) (tC (.int n)) := by
  obtain ⟨tk, h⟩ := h
  exact pe_glob hg h ⟨tk, rfl⟩ hd
theorem hu65 {A : Around} {k : Nat} (hr : Room k A) : A.units + 65 < cLine := by have := hr.un; omega

/-! ### == of data, of texts -/
abbrev rEqU (K : PySem.W.Frag) : R2 := orR (rEqD K) rEq
abbrev rNeU (K : PySem.W.Frag) : R2 := orR (rNeD K) rNe
theorem op_eqU {X : Cx} (hu : X.A.units + 64 < cLine) : OpR X (compareOp .Eq) (rEqU X.K) := (op_eqD hu).or op_eq
theorem op_neU {X : Cx} (hu : X.A.units + 64 < cLine) : OpR X (compareOp .NotEq) (rNeU X.K) := (op_neD hu).or op_ne
section
variable {K : PySem.W.Frag}
theorem rd_eqU {a b : D} (ha : SeqAt.shaped a = true) (hb : SeqAt.shaped b = true) : RD K (rEqU K) a b (.bool (PyData.eqv a b)) := rd_l (rd_eqD ha hb)
theorem rd_neU {a b : D} (ha : SeqAt.shaped a = true) (hb : SeqAt.shaped b = true) : RD K (rNeU K) a b (.bool (!PyData.eqv a b)) := rd_l (rd_neD ha hb)
theorem rd_eqI {i j : Int} : RD K (rEqU K) (.int i) (.int j) (.bool (decide (i = j))) := by
  have h := rd_eqU (K := K) (a := .int i) (b := .int j) rfl rfl
  rwa [show PyData.eqv (.int i) (.int j) = decide (i = j) by rw [PyData.eqv, Bool.beq_eq_decide_eq]] at h
theorem rd_neI {i j : Int} : RD K (rNeU K) (.int i) (.int j) (.bool (!decide (i = j))) := by
  have h := rd_neU (K := K) (a := .int i) (b := .int j) rfl rfl
  rwa [show PyData.eqv (.int i) (.int j) = decide (i = j) by rw [PyData.eqv, Bool.beq_eq_decide_eq]] at h
theorem rd_eqS {x y : Str} : RD K (rEqU K) (.str x) (.str y) (.bool (decide (x = y))) := fun H Hm v u s hx hy Q q => by
  have := dp_str hx
  have := dp_str hy
  subst_vars
  refine .inr ⟨rfl, ?_⟩
  have e : decide (V.str x = V.str y) = decide (x = y) := by
    by_cases h : x = y
    · subst h; simp
    · rw [decide_eq_false h, decide_eq_false (fun z => h (V.str.inj z))]
  rw [e]
  exact q _ H Hm (Gr.refl s) (.bl _)
theorem rd_neS {x y : Str} : RD K (rNeU K) (.str x) (.str y) (.bool (!decide (x = y))) := fun H Hm v u s hx hy Q q => by
  have := dp_str hx
  have := dp_str hy
  subst_vars
  refine .inr ⟨rfl, ?_⟩
  have e : decide (V.str x = V.str y) = decide (x = y) := by
    by_cases h : x = y
    · subst h; simp
    · rw [decide_eq_false h, decide_eq_false (fun z => h (V.str.inj z))]
  rw [e]
  exact q _ H Hm (Gr.refl s) (.bl _)
end

/-! ### data laws -/
theorem dp_it {K : PySem.W.Frag} {ρ : Rho} {te : TE} {x y : Bool} (h : ED K te ρ (.bool x)) (e : x = y) : ED K te ρ (.bool y) := e ▸ h
theorem eqv_int (i j : Int) : PyData.eqv (.int i) (.int j) = decide (i = j) := by rw [PyData.eqv, Bool.beq_eq_decide_eq]
theorem eqv_str (x y : Str) : PyData.eqv (.str x) (.str y) = decide (x = y) := by rw [PyData.eqv, Bool.beq_eq_decide_eq]
theorem eqv_bool (x y : Bool) : PyData.eqv (.bool x) (.bool y) = decide (x = y) := by cases x <;> cases y <;> decide
theorem eqv_list (xs ys : List D) : PyData.eqv (.list xs) (.list ys) = PyData.eqvAll xs ys := by simp [PyData.eqv]
theorem eqv_tup (xs ys : List D) : PyData.eqv (.tuple xs) (.tuple ys) = PyData.eqvAll xs ys := by simp [PyData.eqv]
theorem eqvs_nil (xs : List D) : PyData.eqvAll xs [] = xs.isEmpty := by cases xs <;> simp [PyData.eqvAll]
theorem ints_inj : ∀ {ns ms : List Int}, ns.map PyData.int = ms.map PyData.int → ns = ms
  | [], [], _ => rfl
  | [], _ :: _, h => by cases h
  | _ :: _, [], h => by cases h
  | n :: ns, m :: ms, h => by
    simp only [List.map_cons, List.cons.injEq, PyData.int.injEq] at h
    rw [h.1, ints_inj h.2]
theorem shaped_int (i : Int) : SeqAt.shaped (.int i) = true := by rfl
theorem shaped_bool (i : Bool) : SeqAt.shaped (.bool i) = true := by rfl
/-- fit to be compared, n levels left -/
def fitD (n : Nat) (d : D) : Prop := d.canLay0 = true ∧ d.depth ≤ n
theorem fitD.shaped {n : Nat} {d : D} (h : fitD n d) (hn : n ≤ 64) : SeqAt.shaped d = true := by
  unfold SeqAt.shaped
  rw [h.1, Bool.true_and, decide_eq_true_eq]
  exact Nat.le_trans h.2 hn
theorem fitD.mono {n m : Nat} {d : D} (h : fitD n d) (hn : n ≤ m) : fitD m d := ⟨h.1, Nat.le_trans h.2 hn⟩
theorem lays_mem : ∀ {ds : List D}, PyData.canLayAll0 ds = true ↔ ∀ d ∈ ds, d.canLay0 = true
  | [] => by simp [PyData.canLayAll0]
  | d :: ds => by simp [PyData.canLayAll0, lays_mem (ds := ds)]
theorem deps_mem {n : Nat} : ∀ {ds : List D}, PyData.depthAll ds ≤ n ↔ ∀ d ∈ ds, d.depth ≤ n
  | [] => by simp [PyData.depthAll]
  | d :: ds => by simp [PyData.depthAll, deps_mem (ds := ds), Nat.max_le]
theorem fit_tup {n : Nat} {ds : List D} : fitD (n + 1) (.tuple ds) ↔ ∀ d ∈ ds, fitD n d := by
  unfold fitD
  simp only [PyData.canLay0, PyData.depth, lays_mem, Nat.add_le_add_iff_right, deps_mem]
  exact ⟨fun h d hd => ⟨h.1 d hd, h.2 d hd⟩, fun h => ⟨fun d hd => (h d hd).1, fun d hd => (h d hd).2⟩⟩
theorem fit_lst {n : Nat} {ds : List D} : fitD (n + 1) (.list ds) ↔ ∀ d ∈ ds, fitD n d := by
  unfold fitD
  simp only [PyData.canLay0, PyData.depth, lays_mem, Nat.add_le_add_iff_right, deps_mem]
  exact ⟨fun h d hd => ⟨h.1 d hd, h.2 d hd⟩, fun h => ⟨fun d hd => (h d hd).1, fun d hd => (h d hd).2⟩⟩
theorem fit_T {n : Nat} {t : T} (h : t.depth ≤ n) : fitD n t.data := ⟨T.data_lay t, by rw [T.data_depth]; exact h⟩
theorem fit_int {n : Nat} {i : Int} : fitD n (.int i) := ⟨rfl, by rw [PyData.depth]; exact Nat.zero_le _⟩
theorem fit_bool {n : Nat} {i : Bool} : fitD n (.bool i) := ⟨rfl, by rw [PyData.depth]; exact Nat.zero_le _⟩
theorem fit_str {n : Nat} {i : Str} (h : (PyData.str i).canLay0 = true) : fitD n (.str i) := ⟨h, by rw [PyData.depth]; exact Nat.zero_le _⟩
theorem fit_none {n : Nat} : fitD n .none := ⟨rfl, by rw [PyData.depth]; exact Nat.zero_le _⟩
theorem atI_z {α : Type} {l : List α} {i : Int} {x : α} (h0 : 0 ≤ i) (h : l[i.toNat]? = some x) : atI l i = some x := by
  have := atI_nat h
  rwa [Int.toNat_of_nonneg h0] at this
theorem atI_last {α : Type} {l : List α} {x : α} : atI (l ++ [x]) (-1) = some x := by
  unfold atI ixN
  rw [List.length_append, List.length_singleton, if_neg (by omega), if_pos (by omega)]
  have : ((-1 : Int) + ((l.length + 1 : Nat) : Int)).toNat = l.length := by omega
  show (l ++ [x])[((-1 : Int) + ((l.length + 1 : Nat) : Int)).toNat]? = some x
  rw [this, List.getElem?_append_right (Nat.le_refl _), Nat.sub_self]; rfl
theorem atI_map {α β : Type} {l : List α} {f : α → β} {i : Int} {x : α} (h : atI l i = some x) : atI (l.map f) i = some (f x) := by
  unfold atI at h ⊢
  rw [List.length_map]
  obtain ⟨j, h1, h2⟩ := Option.bind_eq_some_iff.mp h
  rw [h1]
  show (l.map f)[j]? = _
  rw [List.getElem?_map, h2]; rfl
theorem cut_nat {α : Type} (xs : List α) (a b : Nat) : cut xs (some (a : Int)) (some (b : Int)) = (xs.drop a).take (b - a) := by
  unfold cut
  rw [HT.sIx_nat, HT.sIx_nat]
  rcases Nat.le_total a xs.length with h | h
  · rw [Nat.min_eq_left h]
    rcases Nat.le_total b xs.length with h2 | h2
    · rw [Nat.min_eq_left h2]
    · rw [Nat.min_eq_right h2, List.take_of_length_le (by rw [List.length_drop]; omega), List.take_of_length_le (by rw [List.length_drop]; omega)]
  · rw [Nat.min_eq_right h, List.drop_eq_nil_of_le (Nat.le_refl _), List.drop_eq_nil_of_le h, List.take_nil, List.take_nil]
theorem cut_from {α : Type} (xs : List α) (a : Nat) : cut xs (some (a : Int)) none = xs.drop a := by
  unfold cut
  rw [HT.sIx_nat, HT.sIx_none]
  rcases Nat.le_total a xs.length with h | h
  · rw [Nat.min_eq_left h, List.take_of_length_le (by rw [List.length_drop]; omega)]
  · rw [Nat.min_eq_right h, List.drop_eq_nil_of_le (Nat.le_refl _), List.drop_eq_nil_of_le h, List.take_nil]
theorem cut_to {α : Type} (xs : List α) (b : Nat) : cut xs none (some (b : Int)) = xs.take b := by
  unfold cut
  rw [HT.sIx_none, HT.sIx_nat, List.drop_zero, Nat.sub_zero]
  rcases Nat.le_total b xs.length with h | h
  · rw [Nat.min_eq_left h]
  · rw [Nat.min_eq_right h, List.take_of_length_le (Nat.le_refl _), List.take_of_length_le h]
theorem sIx_neg1 (n : Nat) (d : Nat) : HT.sIx n d (some (-1)) = n - 1 := by
  unfold HT.sIx
  simp
  omega
theorem cut_front {α : Type} (xs : List α) : cut xs none (some (-1)) = xs.take (xs.length - 1) := by
  unfold cut
  rw [HT.sIx_none, sIx_neg1, List.drop_zero, Nat.sub_zero]
theorem cut_last {α : Type} (xs : List α) : cut xs (some (-1)) none = xs.drop (xs.length - 1) := by
  unfold cut
  rw [HT.sIx_none, sIx_neg1, List.take_of_length_le (by rw [List.length_drop]; omega)]
end LM
namespace LM
open PySem PySem.Spec PyProof.Rows L2 Evl
section
variable {K : PySem.W.Frag} {ρ ρ' ρ2 : Rho} {ω ω' : Om} {t tu : TS} {d : D} {items : List D} {i j : Nat}
/-- fewer slots are told -/
theorem xd_less (h : XD K t ρ ω (.nx ρ' ω')) (hl : ρ2.length = ρ'.length) (hw : ∀ (i : Nat) (d : D), ρ2[i]? = some (some d) → ρ'[i]? = some (some d)) : XD K t ρ ω (.nx ρ2 ω') := fun H0 Hm0 E σ H Hm S f =>
  h H0 Hm0 E σ H Hm S fun σ' H' Hm' x S' => f σ' H' Hm' x (S'.less hl hw)
theorem xd_lessIn {o : Out} (h : XD K t ρ2 ω o) (hl : ρ2.length = ρ.length) (hw : ∀ (i : Nat) (d : D), ρ2[i]? = some (some d) → ρ[i]? = some (some d)) : XD K t ρ ω o := fun H0 Hm0 E σ H Hm S f =>
  h H0 Hm0 E σ H Hm (S.less hl hw) f
theorem set_less {ρ : Rho} {j : Nat} {x : D} (h : ∀ d : D, ρ[j]? ≠ some (some d)) (i : Nat) (d : D) (e : ρ[i]? = some (some d)) : (ρ.set j (some x))[i]? = some (some d) := by
  have hne : j ≠ i := fun z => h d (z ▸ e)
  rw [List.getElem?_set_ne hne]; exact e
/-- a loop all of whose turns go through; the target's slot is forgotten behind each -/
theorem Go.allF {ρs : Nat → Rho} {ωs : Nat → Om} (hj : ∀ i d, (ρs i)[j]? ≠ some (some d)) (hl : ∀ i, (ρs i).length = (ρs 0).length) (h : ∀ i d, items[i]? = some d → XD K tu ((ρs i).set j (some d)) (ωs i) (.nx ((ρs (i + 1)).set j (some d)) (ωs (i + 1)))) :
    Go K tu j items ρs ωs (.nx (ρs items.length) (ωs items.length)) := Go.all fun i d hd => xd_less (h i d hd) (by rw [List.length_set]) (set_less (hj (i + 1)))
/-- .. of which turn m hands back -/
theorem Go.retF {ρs : Nat → Rho} {ωs : Nat → Om} {m : Nat} {r : D} (hj : ∀ i d, (ρs i)[j]? ≠ some (some d)) (hm : items[m]? = some d) (h : ∀ i d, i < m → items[i]? = some d → XD K tu ((ρs i).set j (some d)) (ωs i) (.nx ((ρs (i + 1)).set j (some d)) (ωs (i + 1))))
    (hr : XD K tu ((ρs m).set j (some d)) (ωs m) (.rt r)) : Go K tu j items ρs ωs (.rt r) :=
  ⟨m, Nat.le_of_lt (List.getElem?_eq_some_iff.mp hm).1, fun i d hi hd => xd_less (h i d hi hd) (by rw [List.length_set]) (set_less (hj (i + 1))), .inr ⟨d, hm, .inl ⟨r, rfl, hr⟩⟩⟩
end
theorem fit_Ts {n : Nat} {ts : List T} (h : T.depths ts ≤ n) : ∀ d ∈ ts.map T.data, fitD n d := fun d hd => by
  obtain ⟨t, ht, rfl⟩ := List.mem_map.mp hd
  exact fit_T (Nat.le_trans (T.depth_mem ht) h)
theorem imms_of : ∀ {ds : List D}, (∀ d ∈ ds, imm d = true) → imms ds = true
  | [], _ => rfl
  | d :: ds, h => by
    rw [imms, h d List.mem_cons_self, imms_of fun x hx => h x (List.mem_cons_of_mem _ hx)]; rfl
mutual
theorem imm_T : ∀ t : T, imm t.data = true
  | .n ts => by rw [T.data, imm]; exact imms_T ts
theorem imms_T : ∀ ts : List T, imms (T.datas ts) = true
  | [] => by rw [T.datas]; rfl
  | t :: ts => by rw [T.datas, imms, imm_T t, imms_T ts]; rfl
end
theorem imms_Ts (ts : List T) : imms (ts.map T.data) = true := by rw [← T.datas_eq]; exact imms_T ts
theorem T.once_app (x : T) : ∀ (l acc : List T), T.once acc (l ++ [x]) = if (T.once acc l).getLast? = some x then T.once acc l else T.once acc l ++ [x]
  | [], acc => rfl
  | y :: l, acc => T.once_app x l _
end LM
namespace LM
open PySem PySem.Spec PyProof.Rows L2 Evl
section
variable {P : Program} {w : World} {K : PySem.W.Frag} {mg : Str → Option Value} {base : Heap} {k : Nat} {x : Str}
/-- a promise of nothing -/
theorem has_none {f : Addr} {fd : FuncData} {ps : List Str} {st : Stmt} {R : List D → D → Prop} (F : Fun K x x st f fd) (b : Binds K fd ps []) (hm : mg x = some (.ref f)) (no : ∀ ds r, ¬ R ds r) : Has P w K mg base k x (SpR K R) := by
  refine ⟨f, fd, ps, ⟨fun vs H Q E h => ?_, fun A outer s H args us vs Q E _ _ _ _ h => ?_⟩, hm, F.kp, b⟩
  · obtain ⟨ds, r, _, _, _, h, _⟩ := h; exact absurd h (no ds r)
  · obtain ⟨ds, r, _, _, _, h, _⟩ := h; exact absurd h (no ds r)
theorem Has.imp {R R' : List D → D → Prop} (h : Has P w K mg base k x (SpR K R)) (im : ∀ ds r, R' ds r → R ds r) : Has P w K mg base k x (SpR K R') := by
  obtain ⟨f, fd, ps, F, a, b, c⟩ := h.ex
  have tr : ∀ vs H Q E, SpR K R' vs H Q E → SpR K R vs H Q E := fun vs H Q E h => by
    obtain ⟨ds, r, Hm, h1, h2, h3, h4⟩ := h
    exact ⟨ds, r, Hm, h1, h2, im ds r h3, h4⟩
  refine ⟨f, fd, ps, ⟨fun vs H Q E h => F.1 vs H Q E (tr _ _ _ _ h), fun A outer s H args us vs Q E h1 h2 h3 h4 h => F.2 A outer s H args us vs Q E h1 h2 h3 h4 (tr _ _ _ _ h)⟩, a, b, c⟩
end
end LM

set_option Elab.async false
set_option linter.all false
set_option maxRecDepth 100000
set_option maxHeartbeats 1000000
/-! Lm8: the rules with what stands at the top named by itself (K), so that they may be used within a comprehension. -/
namespace LM
open PySem PySem.Spec PyProof.Rows L2 Evl
section
variable (K : PySem.W.Frag) {X : Cx} (h : X.K = K)
include h
theorem op_addK : OpR X (binaryOp .Add) (rAddU K) := h ▸ op_addU
theorem op_mulK : OpR X (binaryOp .Mult) (rMulU K) := h ▸ op_mulU
theorem op_eqK (hu : X.A.units + 64 < cLine) : OpR X (compareOp .Eq) (rEqU K) := h ▸ op_eqU hu
theorem op_neK (hu : X.A.units + 64 < cLine) : OpR X (compareOp .NotEq) (rNeU K) := h ▸ op_neU hu
theorem op_ltK (hu : X.A.units + 64 < cLine) : OpR X (compareOp .Lt) (rLtU K) := h ▸ op_ltU hu
theorem op_geK (hu : X.A.units + 64 < cLine) : OpR X (compareOp .GtE) (rGeU K) := h ▸ op_geU hu
theorem op_inDK (hu : X.A.units + 65 < cLine) : OpR X (compareOp .In) (rInD K) := h ▸ op_inD hu
theorem op_notInDK (hu : X.A.units + 65 < cLine) : OpR X (compareOp .NotIn) (rNotInD K) := h ▸ op_notInD hu
theorem ix_K : IxR X (rIx K) := h ▸ ix_seq
theorem sl_K : SlR X (rSlU K) := h ▸ sl_u
theorem call_lenK : CallR X (.builtin "len") (rLen K) := h ▸ call_len_seq
theorem call_isiK' : CallR X (.builtin "isinstance") (rIsi K) := h ▸ call_isi
theorem cr_anyK (hc : X.calm = true) : CallR X (.builtin "any") (rAny K) := h ▸ cr_any hc
theorem cr_allK (hc : X.calm = true) : CallR X (.builtin "all") (rAll K) := h ▸ cr_all hc
theorem cr_sumK (hc : X.calm = true) : CallR X (.builtin "sum") (rSum K) := h ▸ cr_sum hc
theorem cr_maxK (hc : X.calm = true) : CallR X (.builtin "max") (rMax K) := h ▸ cr_max hc
theorem cr_minK (hc : X.calm = true) : CallR X (.builtin "min") (rMin K) := h ▸ cr_min hc
theorem call_listK : CallR X (.type "list") (rLstOf K) := h ▸ call_list_of
theorem call_tupleK : CallR X (.type "tuple") (rTupOf K) := h ▸ call_tuple_of
theorem cr_sortedK (hu : X.A.units + 100 < cLine) : CallR X (.builtin "sorted") (rSortTr K) := h ▸ cr_sortedTr hu
theorem pi_listK {tg l : Expr} {tl : TE} (hl : PE X l tl) : PI X tg l (iList K tl) := h ▸ pi_list hl
theorem pi_tupK {tg l : Expr} {tl : TE} (hl : PE X l tl) : PI X tg l (iTup K tl) := h ▸ pi_tup hl
theorem pe_joinK {o e : Expr} {to te : TE} {apos pos : Pos} (ho : PE X o to) (he : PE X e te) (hs : starEach [e] X.env = [(false, eval e X.env)] := by rfl) (hbase : attributeBase o "join" X.env (eval o X.env) = eval o X.env := by rfl) (hline : (apos.endLine == pos.line) = true := by rfl) :
    PE X (.Call (.Attribute o "join" apos) [e] [] pos) (tM1 (rJoin K) to te) := h ▸ pe_join ho he hs hbase hline
theorem pe_bmK {T : String} {name : Str} {o e : Expr} {es : List Expr} {to : TE} {t : TA} {r : V → List V → Hp → VK → Prop} {apos pos : Pos} (x : PE X (.Call (.Attribute o name apos) (e :: es) [] pos) (tBM X.K T r to t)) : PE X (.Call (.Attribute o name apos) (e :: es) [] pos) (tBM K T r to t) := h ▸ x
theorem pi_zipK {e e2 : Expr} {ta : TA} {p pos tpos : Pos} {elts : List Expr} {kk : Nat} (hg : Gl X "zip") (hm : X.mg "zip" = none) (ha : PA X [e, e2] ta)
    (hs : starEach [e, e2] X.env = (false, eval e X.env) :: starEach [e2] X.env := by rfl) (hpl : (backTo pos (starEach [e2] X.env)).any (·.1) = false := by rfl) :
    PI X (.Tuple elts kk tpos) (.Call (.Name "zip" p) [e, e2] [] pos) (RZ.iZipA K ta) := h ▸ RZ.pi_zipA hg hm ha hs hpl
theorem pg_tupK {es : List Expr} {kk : Nat} {pos : Pos} {t : TGs} {n : Nat} (hg : PG X (.Tuple es kk pos) (gTup X.K n t)) : PG X (.Tuple es kk pos) (gTup K n t) := h ▸ hg
/-- t[::-1] -/
theorem mt_extK : MtM X "list.extend" (rExtA K) := h ▸ mt_extA
end
/-! ### t[::-1] -/
section
variable {prog : Program} {w : World} {A : Around} {E : Value → Shared → Prop} {s : Shared}
theorem adj_rev (n : Int) : Builtin.Slice.sliceAdjust none none (-1) n = (n - 1, -1) := by
  unfold Builtin.Slice.sliceAdjust
  simp
theorem places_rev (n : Nat) : Builtin.Slice.slicePlaces ((n : Int) - 1) (-1) (-1) = n := by
  unfold Builtin.Slice.slicePlaces
  rw [if_neg (by decide)]
  split
  · rw [show -(-1 : Int) = 1 from rfl, Int.ediv_one]; omega
  · omega
theorem pick_rev (xs : List Value) : (List.range xs.length).filterMap (fun (m : Nat) => xs.toArray[(((xs.length : Nat) : Int) - 1 + (m : Int) * (-1)).toNat]?) = xs.reverse := by
  have key : ∀ k, k ≤ xs.length → (List.range k).filterMap (fun (m : Nat) => xs.toArray[(((xs.length : Nat) : Int) - 1 + (m : Int) * (-1)).toNat]?) = xs.reverse.take k := by
    intro k
    induction k with
    | zero => intro _; rfl
    | succ k ih =>
      intro hk
      have e : (((xs.length : Nat) : Int) - 1 + (k : Int) * (-1)).toNat = xs.length - 1 - k := by omega
      have g : xs.reverse[k]? = xs[xs.length - 1 - k]? := List.getElem?_reverse hk
      have h2 : xs.length - 1 - k < xs.length := by omega
      rw [List.range_succ, List.filterMap_append, ih (by omega), List.take_add_one, g, List.getElem?_eq_getElem h2]
      congr 1
      rw [List.filterMap_cons, List.filterMap_nil, e]
      simp [h2]
  have := key xs.length (Nat.le_refl _)
  rwa [List.take_of_length_le (by rw [List.length_reverse]; exact Nat.le_refl _)] at this
theorem applied_rev {sl : Addr} {vl vu vs : Value} {n : Nat} {Q : Int × Int × Nat → Shared → Prop} (hs : s.heap.IsSliceOf sl vl vu vs) (pl : IsPart vl none) (pu : IsPart vu none) (ps : IsPart vs (some (-1))) (q : Q ((n : Int) - 1, -1, n) s) :
    wpAny (model prog w) A (Builtin.Slice.sliceApplied (.ref sl) (pure (n : Int))) Q E s := by
  obtain ⟨o, h1, h2, h3⟩ := hs
  unfold Builtin.Slice.sliceApplied Builtin.Slice.sliceFields
  refine wpAny_bind (wpAny_bind (wpAny_field h1 h3 (x := vl) rfl (wpAny_bind (wpAny_field h1 h3 (x := vu) rfl (wpAny_bind (wpAny_field h1 h3 (x := vs) rfl (wpAny_pure ?_)))))))
  refine wpAny_bind (HT.slicePart_ ps ?_)
  show wpAny _ _ (if ((-1 : Int) == 0) = true then _ else _) _ _ s
  rw [if_neg (by decide)]
  refine wpAny_bind (HT.slicePart_ pl (wpAny_bind (HT.slicePart_ pu (wpAny_bind (wpAny_pure ?_)))))
  show wpAny _ _ (match Builtin.Slice.sliceAdjust none none (-1) (n : Int) with | (lo, hi) => pure (lo, (-1 : Int), Builtin.Slice.slicePlaces lo hi (-1))) _ _ s
  rw [adj_rev]
  show wpAny _ _ (pure ((n : Int) - 1, (-1 : Int), Builtin.Slice.slicePlaces ((n : Int) - 1) (-1) (-1))) _ _ s
  rw [places_rev]
  exact wpAny_pure q
theorem getItem_rev {t sl : Addr} {its : List Value} {vl vu vs : Value} {Q : Value → Shared → Prop} (ht : IsTup s.heap t its.toArray) (hs : s.heap.IsSliceOf sl vl vu vs) (pl : IsPart vl none) (pu : IsPart vu none) (ps : IsPart vs (some (-1)))
    (hz : its.length ≤ sizeLine) (q : Q (.ref s.heap.objs.size) { s with heap := s.heap.push { cls := .type "tuple", data := .seq its.reverse.toArray } }) : wpAny (model prog w) A (getItem (.ref t) (.ref sl)) Q E s := by
  have hsz : sizeOk (.seq its.reverse.toArray) := by
    show its.reverse.toArray.size ≤ sizeLine
    rw [List.size_toArray, List.length_reverse]; exact hz
  have isl : s.TypeIs (.ref sl) "slice" := by
    obtain ⟨o, h1, h2, _⟩ := id hs
    exact ⟨o, h1, h2⟩
  unfold getItem
  try with_reducible refine wpAny_holding ?_
  first | refine wpAny_bind (wpAny_pure ?_) | skip
  refine wpAny_bind (wpAny_sequenceKey ht.typeIs (by decide) (wpAny_bind (wpAny_callSpecial?_slot (name := Str.ofString "__getitem__") ht.typeIs PyProof.Rows.slot_tuple_getitem (wpAny_call_entry PyProof.Rows.slot_tuple_getitem ht.typeIs entry_tuple_getitem ?_ (args_tuple_getitem _ _)))))
  show wpAny _ _ (Builtin.Tuple.tupleItemsOf (.ref t) >>= _) _ _ s
  refine wpAny_bind (tupleItemsOf_ ht (wpAny_bind (wpAny_typeOf isl ?_)))
  rw [if_pos (by decide)]
  have e0 : (its.toArray.size : Nat) = its.length := List.size_toArray
  rw [e0]
  refine wpAny_bind (applied_rev hs pl pu ps ?_)
  show wpAny _ _ (if (((its.length : Nat) : Int) - 1 == 0 && (-1 : Int) == 1 && its.length == its.toArray.size) = true then _ else _) _ _ s
  rw [if_neg (by simp), pick_rev]
  first
    | exact wpAny_bind (m := Builtin.Tuple.tupleExact _) (wpAny_newObj_type (wpAny_pure ⟨_, rfl, wpAny_pure q⟩) hsz)
    | exact wpAny_bind (m := Builtin.Tuple.tupleExact _) (wpAny_newObj_type (wpAny_bind (wpAny_pure (wpAny_pure ⟨_, rfl, wpAny_pure q⟩))) hsz)
    | exact wpAny_bind (wpAny_bind (m := Builtin.Tuple.tupleExact _) (wpAny_newObj_type (wpAny_pure (wpAny_pure ⟨_, rfl, wpAny_pure q⟩)) hsz))
end
def tRevT (K : PySem.W.Frag) (te : TE) : TE := fun σ H Q => te σ H fun x H1 => ∃ a xs, x = .ref a ∧ SqT K H1 a xs ∧ ∀ p, H1 p = none → Q (.ref p) (upd H1 p (.tup xs.reverse))
theorem pe_revT (K : PySem.W.Frag) {X : Cx} (hK : X.K = K) {e : Expr} {te : TE} {k : Nat} {p1 p2 p3 pos : Pos} (he : PE X e te) : PE X (.Subscript e (.Slice none none (some (.UnaryOp .USub (.Constant (.int 1) k p1) p2)) p3) pos) (tRevT K te) := by
  subst hK
  refine ⟨fun pins s σ H Q I h => Subscript_ (thn (he.run pins s σ H _ I h) fun v s1 ⟨x, H1, I1, r1, a, xs, ex, hx, q⟩ => ?_)⟩
  subst ex
  cases r1
  have st : PO X (some (.UnaryOp .USub (.Constant (.int 1) k p1) p2)) (tPart (tUn (rU fun i => .int (-i)) (tC (.int 1)))) := po_some (pe_un un_neg pe_int)
  refine wpAny_Slice (thn (po_none.run pins s1 σ H1 (fun o H2 => o = none ∧ H2 = H1) I1 ⟨rfl, rfl⟩) fun v1 s2 ⟨o1, H2, I2, d1, e1, f1⟩ => ?_)
  subst e1 f1
  refine thn (po_none.run pins s2 σ H2 (fun o H3 => o = none ∧ H3 = H2) I2 ⟨rfl, rfl⟩) fun v2 s3 ⟨o2, H3, I3, d2, e2, f2⟩ => ?_
  subst e2 f2
  refine thn (st.run pins s3 σ H3 (fun o H4 => o = some (-1) ∧ H4 = H3) I3 ⟨1, rfl, -1, rfl, rfl, rfl⟩) fun v3 s4 ⟨o3, H4, I4, d3, e3, f3⟩ => ?_
  subst e3 f3
  have J : Inv X pins σ H4 { s4 with heap := s4.heap.push { cls := .type "slice", data := .fields #[v1, v2, v3] } } := I4.kept (t' := s4.toks) fun b ob z => Heap.get?_push_of_some _ z
  obtain ⟨its, r, ht, hz⟩ := J.tuple hx
  show wpAny (model X.prog X.w) X.A (subscriptTail e (.Slice none none (some (.UnaryOp .USub (.Constant (.int 1) k p1) p2)) p3) (.ref a) (.ref s4.heap.objs.size)) (EP X pins σ Q) X.xe { s4 with heap := s4.heap.push { cls := .type "slice", data := .fields #[v1, v2, v3] } }
  refine tail_any (ops := [.ref a, .ref s4.heap.objs.size]) ht.typeIs PyProof.Rows.slot_tuple_getitem.lookup ?_ (by with_unfolding_all rfl)
  refine getItem_rev ht (Heap.IsSliceOf.new _ v1 v2 v3) d1 d2 d3 (by rw [← r.length]; exact hz) ?_
  refine ⟨.ref _, _, J.laid (t' := s4.toks) (o := .tup xs.reverse) (fun b ob z => Heap.get?_push_of_some _ z) (Nat.le_refl _) ?_, rfl, q _ (J.hok.fresh (Nat.le_refl _))⟩
  exact ⟨by rw [List.length_reverse]; exact hz, _, r.reverse, IsTup.new _ _⟩
theorem dps_rev {K : PySem.W.Frag} {H : Hp} : ∀ {vs : List V} {ds : List D}, DpAll K H vs ds → DpAll K H vs.reverse ds.reverse
  | _, _, .nil => .nil
  | _, _, .cons h t => by
    rw [List.reverse_cons, List.reverse_cons]
    exact (dps_rev t).snoc h
theorem ed_revT {K : PySem.W.Frag} {ρ : Rho} {te : TE} {ds : List D} (h : ED K te ρ (.tuple ds)) : ED K (tRevT K te) ρ (.tuple ds.reverse) := fun σ H Hm s l hs Q q =>
  h σ H Hm s l hs _ fun v H1 Hm1 g1 d1 => by
    obtain ⟨a, xs, rfl, hx, ha⟩ := dp_tup d1
    exact ⟨a, xs, rfl, ex_t g1.sub hx, fun p hp => q _ _ _ (g1.trans (Gr.new g1.sub hp)) (.tup (.inl (.inl upd_same)) ((dps_rev ha).mono (Ex.new (fresh_back g1.sub hp))))⟩
end LM
namespace LM
open PySem PySem.Spec PyProof.Rows L2 Evl
section
variable {K : PySem.W.Frag} {ρ : Rho} {ω : Om} {tu : TS} {items : List D} {j : Nat} {r : D}
theorem first_bad {ok : D → Bool} : ∀ {items : List D}, items.all ok = false → ∃ (m : Nat) (d : D), items[m]? = some d ∧ ok d = false ∧ ∀ (i : Nat) (e : D), i < m → items[i]? = some e → ok e = true
  | [], h => by cases h
  | x :: xs, h => by
    cases hx : ok x with
    | false => exact ⟨0, x, rfl, hx, fun i e hi _ => by omega⟩
    | true =>
      rw [List.all_cons, hx, Bool.true_and] at h
      obtain ⟨m, d, h1, h2, h3⟩ := first_bad h
      refine ⟨m + 1, d, by simpa using h1, h2, fun i e hi he => ?_⟩
      cases i with
      | zero =>
        have : x = e := by simpa using he
        rw [← this]; exact hx
      | succ i => exact h3 i e (by omega) (by simpa using he)
/-- for x in xs: if x is bad: return r -/
theorem Go.check {ok : D → Bool} (hj : ∀ d : D, ρ[j]? ≠ some (some d)) (h : ∀ d ∈ items, XD K tu (ρ.set j (some d)) ω (if ok d = true then .nx (ρ.set j (some d)) ω else .rt r)) :
    Go K tu j items (fun _ => ρ) (fun _ => ω) (if items.all ok = true then .nx ρ ω else .rt r) := by
  cases hb : items.all ok with
  | true =>
    rw [if_pos rfl]
    refine Go.allF (fun _ => hj) (fun _ => rfl) fun i d hd => ?_
    have hm := List.mem_of_getElem? hd
    have := h d hm
    rwa [if_pos (List.all_eq_true.mp hb d hm)] at this
  | false =>
    rw [if_neg Bool.false_ne_true]
    obtain ⟨m, d, h1, h2, h3⟩ := first_bad hb
    refine Go.retF (fun _ => hj) h1 (fun i e hi he => ?_) ?_
    · have := h e (List.mem_of_getElem? he)
      rwa [if_pos (h3 i e hi he)] at this
    · have := h d (List.mem_of_getElem? h1)
      rwa [h2, if_neg Bool.false_ne_true] at this
end
/-! ### how large data are -/
mutual
def sz : D → Nat
  | .tuple ds => szs ds + 1
  | .list ds => szs ds + 1
  | .none => 1
  | .bool _ => 1
  | .int _ => 1
  | .str _ => 1
  | .dict _ => 1
def szs : List D → Nat
  | [] => 0
  | d :: ds => sz d + szs ds
end
theorem sz_pos (d : D) : 1 ≤ sz d := by cases d <;> simp [sz]
theorem sz_mem {d : D} : ∀ {ds : List D}, d ∈ ds → sz d ≤ szs ds
  | [], h => by cases h
  | x :: xs, h => by
    rw [szs]
    rcases List.mem_cons.mp h with e | h
    · rw [e]; omega
    · have := sz_mem h; omega
theorem len_szs : ∀ ds : List D, ds.length ≤ szs ds
  | [] => Nat.zero_le _
  | d :: ds => by
    have := sz_pos d
    have := len_szs ds
    rw [szs, List.length_cons]; omega
theorem szs_app : ∀ ds es : List D, szs (ds ++ es) = szs ds + szs es
  | [], es => by simp [szs]
  | d :: ds, es => by rw [List.cons_append, szs, szs, szs_app ds es]; omega
theorem szs_take (ds : List D) (n : Nat) : szs (ds.take n) ≤ szs ds := by
  have h := szs_app (ds.take n) (ds.drop n)
  rw [List.take_append_drop] at h; omega
theorem szs_drop (ds : List D) (n : Nat) : szs (ds.drop n) ≤ szs ds := by
  have h := szs_app (ds.take n) (ds.drop n)
  rw [List.take_append_drop] at h; omega
/-! ### data read as trees -/
mutual
def ofD : D → T
  | .tuple ds => .n (ofDs ds)
  | .list _ => .n []
  | .none => .n []
  | .bool _ => .n []
  | .int _ => .n []
  | .str _ => .n []
  | .dict _ => .n []
def ofDs : List D → List T
  | [] => []
  | d :: ds => ofD d :: ofDs ds
end
theorem ofDs_eq : ∀ ds : List D, ofDs ds = ds.map ofD
  | [] => rfl
  | d :: ds => by rw [ofDs, ofDs_eq ds]; rfl
mutual
theorem ofD_data : ∀ t : T, ofD t.data = t
  | .n ts => by rw [T.data, ofD, ofDs_datas ts]
theorem ofDs_datas : ∀ ts : List T, ofDs (T.datas ts) = ts
  | [] => by rw [T.datas, ofDs]
  | t :: ts => by rw [T.datas, ofDs, ofD_data t, ofDs_datas ts]
end
theorem ofDs_map (ts : List T) : (ts.map T.data).map ofD = ts := by rw [← ofDs_eq, ← T.datas_eq, ofDs_datas]
/-- consecutive ones compared -/
def zl : List T → List Bool
  | [] => []
  | [_] => []
  | x :: y :: r => T.lt x y :: zl (y :: r)
def ascB (ts : List T) : Bool := (zl ts).all id
theorem ascB_iff : ∀ ts : List T, ascB ts = true ↔ T.Asc ts
  | [] => by simp [ascB, zl, T.Asc]
  | [x] => by simp [ascB, zl, T.Asc]
  | x :: y :: r => by
    have ih := ascB_iff (y :: r)
    have e : ascB (x :: y :: r) = (T.lt x y && ascB (y :: r)) := by unfold ascB; rw [zl, List.all_cons]; rfl
    rw [e, Bool.and_eq_true, ih]
    unfold T.Asc
    rw [List.pairwise_cons (a := x)]
    constructor
    · rintro ⟨h1, h2⟩
      refine ⟨fun z hz => ?_, h2⟩
      rcases List.mem_cons.mp hz with e | hz
      · rw [e]; exact h1
      · exact T.lt_trans h1 ((List.pairwise_cons.mp h2).1 z hz)
    · rintro ⟨h1, h2⟩
      exact ⟨h1 y List.mem_cons_self, h2⟩
def okRow (g : D → Bool) : D → Bool
  | .tuple gs => gs.all g && ascB (gs.map ofD)
  | _ => false
def okG : Nat → D → Bool
  | 0, _ => false
  | f + 1, d => match d with
    | .tuple [a, b] => okRow (okG f) a && okRow (okG f) b
    | _ => false
theorem okRow_T {g : D → Bool} {m : Nat} (h : ∀ d, g d = true → d = (ofD d).data ∧ (ofD d).depth ≤ m) {d : D} (hd : okRow g d = true) : ∃ ts : List T, d = .tuple (ts.map T.data) ∧ ts = (match d with | .tuple gs => gs.map ofD | _ => []) ∧ T.depths ts ≤ m ∧ ascB ts = true := by
  cases d with
  | tuple gs =>
    simp only [okRow, Bool.and_eq_true, List.all_eq_true] at hd
    refine ⟨gs.map ofD, ?_, rfl, ?_, hd.2⟩
    · congr 1
      rw [List.map_map]
      conv => lhs; rw [← List.map_id gs]
      exact List.map_congr_left fun d hx => (h d (hd.1 d hx)).1
    · refine T.depths_le fun t ht => ?_
      obtain ⟨d, hx, rfl⟩ := List.mem_map.mp ht
      exact (h d (hd.1 d hx)).2
  | _ => simp [okRow] at hd
theorem okG_T : ∀ (f : Nat) (d : D), okG f d = true → d = (ofD d).data ∧ (ofD d).depth ≤ 2 * f
  | 0, d, h => by simp [okG] at h
  | f + 1, d, h => by
    unfold okG at h
    split at h
    · rename_i a b
      rw [Bool.and_eq_true] at h
      obtain ⟨ls, rfl, -, d1, -⟩ := okRow_T (okG_T f) h.1
      obtain ⟨rs, rfl, -, d2, -⟩ := okRow_T (okG_T f) h.2
      have e : ofD (.tuple [.tuple (ls.map T.data), .tuple (rs.map T.data)]) = .n [.n ls, .n rs] := by
        rw [ofD, ofDs, ofDs, ofDs, ofD, ofD, ofDs_eq, ofDs_eq, ofDs_map, ofDs_map]
      rw [e]
      refine ⟨by rw [T.data_n, List.map_cons, List.map_cons, List.map_nil, T.data_n, T.data_n], ?_⟩
      simp only [T.depth, T.depths]
      omega
    · cases h
end LM
namespace LM
open PySem PySem.Spec PyProof.Rows L2 Evl
section
variable {K : PySem.W.Frag} {ρ : Rho} {ω : Om} {tu w : TS} {tl te : TE} {tt : TT} {items : List D} {j : Nat} {r : D} {o : Out}
theorem xd_checkT (ok : D → Bool) (r : D) (hsrc : ED K tl (vw ρ ω) (.tuple items)) (hd : ω = none ∨ imms items = true := by first | exact .inl rfl | exact .inr (by rfl) | exact .inr (by assumption)) (hw : ∀ q, ω = some q → q.1 ≠ j := by first | (intro _ h; cases h; done) | (intro _ h; cases h; decide)) (hj : ∀ d : D, ρ[j]? ≠ some (some d) := by simp)
    (turn : ∀ d ∈ items, XD K tu (ρ.set j (some d)) ω (if ok d = true then .nx (ρ.set j (some d)) ω else .rt r)) (rest : items.all ok = true → XD K w ρ ω o) (fin : items.all ok = false → o = .rt r) : XD K (tSeq (tFor (iTup K tl) (gName j) tu) w) ρ ω o := by
  have g := Go.check hj turn
  cases hb : items.all ok with
  | true =>
    rw [hb, if_pos rfl] at g
    exact xd_seq (xd_forT (fun _ => ρ) (fun _ => ω) hsrc hd rfl rfl (fun _ => hw) g) (rest hb)
  | false =>
    rw [hb, if_neg Bool.false_ne_true] at g
    rw [fin hb]
    exact xd_seq_rt (xd_forT (fun _ => ρ) (fun _ => ω) hsrc hd rfl rfl (fun _ => hw) g)
theorem xd_checkL (ok : D → Bool) (r : D) (hsrc : ED K tl ρ (.list items)) (hw : ∀ q, ω = some q → q.1 ≠ j := by first | (intro _ h; cases h; done) | (intro _ h; cases h; decide)) (hj : ∀ d : D, ρ[j]? ≠ some (some d) := by simp)
    (turn : ∀ d ∈ items, XD K tu (ρ.set j (some d)) ω (if ok d = true then .nx (ρ.set j (some d)) ω else .rt r)) (rest : items.all ok = true → XD K w ρ ω o) (fin : items.all ok = false → o = .rt r) : XD K (tSeq (tFor (iList K tl) (gName j) tu) w) ρ ω o := by
  have g := Go.check hj turn
  cases hb : items.all ok with
  | true =>
    rw [hb, if_pos rfl] at g
    exact xd_seq (xd_forL (fun _ => ρ) (fun _ => ω) hsrc rfl rfl (fun _ => hw) g) (rest hb)
  | false =>
    rw [hb, if_neg Bool.false_ne_true] at g
    rw [fin hb]
    exact xd_seq_rt (xd_forL (fun _ => ρ) (fun _ => ω) hsrc rfl rfl (fun _ => hw) g)
/-- if bad: return r -/
theorem xd_guard {ok : Bool} (h : ET K tt (vw ρ ω) (!ok)) (hr : ED K te (vw ρ ω) r) : XD K (tIfS tt (tRet te) tNext) ρ ω (if ok = true then .nx ρ ω else .rt r) := by
  cases ok with
  | true => exact xd_ifF h xd_next
  | false => exact xd_ifT h (xd_ret hr)
/-- .. with more behind -/
theorem xd_guards {ok ok2 : Bool} {ρ2 : Rho} {ω2 : Om} (h : ET K tt (vw ρ ω) (!ok)) (hr : ED K te (vw ρ ω) r) (k : ok = true → XD K w ρ ω (if ok2 = true then .nx ρ2 ω2 else .rt r)) : XD K (tSeq (tIfS tt (tRet te) tNext) w) ρ ω (if (ok && ok2) = true then .nx ρ2 ω2 else .rt r) := by
  cases ok with
  | true => exact xd_seq (xd_ifF h xd_next) (by simpa using k rfl)
  | false => exact xd_seq_rt (xd_ifT h (xd_ret hr))
end
end LM
namespace LM
theorem cut_from1 {α : Type} (xs : List α) : cut xs (some 1) none = xs.drop 1 := cut_from xs 1
end LM
namespace LM
open PySem PySem.Spec PyProof.Rows L2 Evl
theorem ed_rd_is {K : PySem.W.Frag} {r : R2} {a b c d : D} (h : RD K r a b c) (e : c = d) : RD K r a b d := e ▸ h
theorem ed_B_is {K : PySem.W.Frag} {ρ : Rho} {tt : TT} {x y : Bool} (h : ET K tt ρ x) (e : x = y) : ET K tt ρ y := e ▸ h
end LM
namespace LM
open PySem PySem.Spec PyProof.Rows L2 Evl
theorem et_andF {K : PySem.W.Frag} {ρ : Rho} {t u : TT} {x : Bool} (h : ET K t ρ x) (e : x = false) : ET K (tAnd t u) ρ false := by
  subst e
  exact et_and (x := false) (y := false) h fun z => by cases z
theorem et_orT {K : PySem.W.Frag} {ρ : Rho} {t u : TT} {x : Bool} (h : ET K t ρ x) (e : x = true) : ET K (tOr t u) ρ true := by
  subst e
  exact et_or (x := true) (y := true) h fun z => by cases z
end LM
namespace LM
open PySem PySem.Spec PyProof.Rows L2 Evl
/-- a def's promise at its own address -/
theorem fn_of {P : Program} {w : World} {K : PySem.W.Frag} {mg : Str → Option Value} {base : Heap} {x : Str} {st : Stmt} {f : Addr} {fd : FuncData} {N ps : List Str} {k : Nat} {R : List D → D → Prop} (F : Fun K x x st f fd) (S : FnScope N ps (defScope st)) (hN : ps.length ≤ N.length) (len : ∀ ds r, R ds r → ds.length = ps.length)
    (hbody : ∀ (cdv : Value) (A : Around) (outer : List Env) (s : Shared) (H : Hp) (E : XK), Room k (A.deeper (envOfC x (defScope st) s.heap.objs.size f cdv)) →
      ∃ t, PSs (cxOf CX0 P w K mg base N x (defScope st) f cdv A outer s H E).nox (defBody st) t ∧ ∀ ds r, R ds r → XD K t (startR N ds) none (.rt r)) : FnOk P w K mg base CX0 (k + 1) f fd ps (SpR K R) := by
  refine F.ok S (fun vs H Q E h => ?_) (fun cdv A outer s H vs Q E hr h => ?_)
  · obtain ⟨ds, r, Hm, _, hd, hR, _⟩ := h
    rw [hd.len, len ds r hR]
  · obtain ⟨t, h1, h2⟩ := hbody cdv A outer s H E hr
    obtain ⟨ds, r, Hm, s1, hd, hR, q⟩ := h
    have hl := len ds r hR
    refine ⟨t, h1, h2 ds r hR H Hm _ (L2.start N vs) H Hm ⟨Gr.refl s1, ?_, start_sd hd, trivial⟩ fun v H' Hm' g hv => q v H' Hm' g hv⟩
    rw [startR_len (by omega)]
    have := hd.len
    unfold L2.start
    rw [List.length_append, List.length_map, List.length_replicate]
    omega
end LM

set_option Elab.async false
set_option linter.all false
set_option maxRecDepth 100000
set_option maxHeartbeats 1000000
/-! LmX: errors of own classes, by data: defs that hand back a value or let an error out; raise; try. -/
namespace LM
open PySem PySem.Spec PyProof.Rows L2 Evl
/-- an error's class, as the top knows it -/
structure XCls (K : PySem.W.Frag) (mg : Str → Option Value) (x : Str) (C : Addr) : Prop where
  gC : mg x = some (.ref C)
  kC : PySem.W.keepIn K (.ref C) = true
  xC : PySem.W.excIn K C [.type "ValueError", .type "Exception", .type "BaseException", .type "object"] "ValueError.__new__" = true
  bC : PySem.W.subIn K (.ref C) (.type "BaseException") = some true
  tC : PySem.W.typeIn K (.ref C) = some (.type "type")
  dC : PySem.W.hasDictIn K C = true
abbrev Res := D ⊕ Addr
def ResOk (K : PySem.W.Frag) (H Hm : Hp) (Q : VK) (E : XK) : Res → Prop
  | .inl r => ∀ v H2 Hm2, Gr H Hm H2 Hm2 → Dp K Hm2 v r → Q v H2
  | .inr C => ∀ H2 Hm2, Gr H Hm H2 Hm2 → E (.ref C) none H2
/-- a promise: a value, or an error -/
def SpX (K : PySem.W.Frag) (R : List D → Res → Prop) : Sp := fun vs H Q E => ∃ ds o Hm, Ex Hm H ∧ DpAll K Hm vs ds ∧ R ds o ∧ ResOk K H Hm Q E o
structure HasX (P : Program) (w : World) (K : PySem.W.Frag) (mg : Str → Option Value) (base : Heap) (k : Nat) (x : Str) (sp : Sp) : Prop where
  ex : ∃ f fd ps, FnOk P w K mg base (L2.CX P w) k f fd ps sp ∧ mg x = some (.ref f) ∧ PySem.W.keepIn K (.ref f) = true ∧ Binds K fd ps []
theorem HasX.mono {P : Program} {w : World} {K : PySem.W.Frag} {mg : Str → Option Value} {base : Heap} {j k : Nat} {x : Str} {sp : Sp} (h : HasX P w K mg base j x sp) (hk : j ≤ k) : HasX P w K mg base k x sp :=
  let ⟨f, fd, ps, F, a, b, c⟩ := h.ex
  ⟨f, fd, ps, F.mono hk, a, b, c⟩
theorem passX0 {X : Cx} : Passes (L2.CX X.prog X.w) X E0 := fun _ _ _ _ _ _ _ h => by
  obtain ⟨_, _, _, _, _, _, _, _, _, _, _, _, h⟩ := h
  exact h.elim
section
variable {X : Cx} {k j : Nat} {x : Str} {sp : Sp} {e : Expr} {es : List Expr} {p pos : Pos} {t : TA}
/-- a call that hands back a value -/
theorem pe_hx (c : HasX X.prog X.w X.K X.mg X.base k x sp) (hr : Room j X.A) (hk : k ≤ j) (hg : Gl X x) (ha : PA X (e :: es) t)
    (hd : (x == ("__debug__" : Str)) = false := by decide) (hs : starEach (e :: es) X.env = (false, eval e X.env) :: starEach es X.env := by rfl) (hpl : (backTo pos (starEach es X.env)).any (·.1) = false := by rfl) :
    PE X (.Call (.Name x p) (e :: es) [] pos) (tCall sp [] E0 t) := by
  obtain ⟨f, fd, ps, F, hm, kp, b⟩ := c.ex
  exact pe_call F (hr.mono hk) hg hm kp b .nil passX0 ha (hdb := hd) (he := hs) (hpl := hpl)
/-- .. that may let an error out -/
theorem pe_hs {W : WX} (c : HasX X.prog X.w X.K X.mg X.base k x sp) (tk : Takes X W) (hr : Room j X.A) (hk : k ≤ j) (hg : Gl X x) (ha : PA X (e :: es) t)
    (hd : (x == ("__debug__" : Str)) = false := by decide) (hs : starEach (e :: es) X.env = (false, eval e X.env) :: starEach es X.env := by rfl) (hpl : (backTo pos (starEach es X.env)).any (·.1) = false := by rfl) :
    PE X (.Call (.Name x p) (e :: es) [] pos) (tCallS sp (WE W) t) := by
  obtain ⟨f, fd, ps, F, hm, kp, b⟩ := c.ex
  exact pe_callS F (hr.mono hk) hg hm kp b (fun σ => passAt tk σ) ha (hdb := hd) (he := hs) (hpl := hpl)
/-- raise x('m') -/
def tRaise (W : WX) (C : Addr) : TS := fun _ σ H => W (.ref C) none σ H
theorem ps_raiseC {W : WX} {C : Addr} {m : Str} {jj : Nat} {p2 pos2 : Pos} (hc : X.calm = true) (tk : Takes X W) (T : XCls X.K X.mg x C) (hg : Gl X x) (hdb : (x == ("__debug__" : Str)) = false := by decide) :
    PS X (.Raise (some (.Call (.Name x p) [.Constant (.str m) jj p2] [] pos)) none pos2) (tRaise W C) :=
  ps_raise hc tk (pmk_own PySem.F.excBase_ValueError T.xC T.gC T.kC (raises_own T.bC T.tC) hg hdb)
end
section
variable {K : PySem.W.Frag} {ρ ρ' ρ2 : Rho} {ω ω' ω2 : Om} {o : Out} {t u : TS} {te : TE} {ta : TA} {tt : TT} {d : D} {ds : List D} {i j : Nat} {W : WX} {C : Addr}
/-- a value of a call with a promise SpX -/
theorem ed_callX {R : List D → Res → Prop} {E : XK} (h : EDs K ta ρ ds) (hr : R ds (.inl d)) : ED K (tCall (SpX K R) [] E ta) ρ d := fun σ H Hm s l hs Q q =>
  h σ H Hm s l hs _ fun xs H1 Hm1 g1 h1 => by
    show SpX K R (xs ++ []) H1 Q E
    rw [List.append_nil]
    exact ⟨ds, .inl d, Hm1, g1.sub, h1, hr, fun v H2 Hm2 g2 h2 => q v H2 Hm2 (g1.trans g2) h2⟩
theorem ed_callS {R : List D → Res → Prop} {E : L2.St → XK} (h : EDs K ta ρ ds) (hr : R ds (.inl d)) : ED K (tCallS (SpX K R) E ta) ρ d := fun σ H Hm s l hs Q q =>
  h σ H Hm s l hs _ fun xs H1 Hm1 g1 h1 => ⟨ds, .inl d, Hm1, g1.sub, h1, hr, fun v H2 Hm2 g2 h2 => q v H2 Hm2 (g1.trans g2) h2⟩
/-- an expression that lets an error out -/
def ER (K : PySem.W.Frag) (W : WX) (C : Addr) (te : TE) (ρ : Rho) : Prop := ∀ σ H Hm, Ex Hm H → ρ.length ≤ σ.length → Sd K Hm σ ρ → (∀ H2 Hm2, Gr H Hm H2 Hm2 → W (.ref C) none σ H2) → ∀ Q : VK, te σ H Q
theorem er_callS {R : List D → Res → Prop} (h : EDs K ta ρ ds) (hr : R ds (.inr C)) : ER K W C (tCallS (SpX K R) (WE W) ta) ρ := fun σ H Hm s l hs q Q =>
  h σ H Hm s l hs _ fun xs H1 Hm1 g1 h1 => ⟨ds, .inr C, Hm1, g1.sub, h1, hr, fun H2 Hm2 g2 => q H2 Hm2 (g1.trans g2)⟩
/-- a statement that lets an error out, the slots then -/
def XR (K : PySem.W.Frag) (W : WX) (C : Addr) (ts : TS) (ρ : Rho) (ω : Om) (ρ' : Rho) : Prop := ∀ H0 Hm0 E σ H Hm, Stt K H0 Hm0 H Hm σ ρ ω → (∀ σ' H' Hm', Stt K H0 Hm0 H' Hm' σ' ρ' none → W (.ref C) none σ' H') → ts E σ H
theorem Stt.unown {H0 Hm0 H Hm : Hp} {σ : L2.St} (S : Stt K H0 Hm0 H Hm σ ρ ω) : Stt K H0 Hm0 H Hm σ ρ none := ⟨S.gr, S.len, S.sd, trivial⟩
theorem xr_raise : XR K W C (tRaise W C) ρ ω ρ := fun H0 Hm0 E σ H Hm S q => q σ H Hm S.unown
theorem xr_seq1 (h : XR K W C t ρ ω ρ') : XR K W C (tSeq t u) ρ ω ρ' := fun H0 Hm0 E σ H Hm S q => h H0 Hm0 _ σ H Hm S q
theorem xr_seq (h : XD K t ρ ω (.nx ρ2 ω2)) (k : XR K W C u ρ2 ω2 ρ') : XR K W C (tSeq t u) ρ ω ρ' := fun H0 Hm0 E σ H Hm S q =>
  h H0 Hm0 _ σ H Hm S fun σ' H' Hm' x S' => k H0 Hm0 E σ' H' Hm' S' q
theorem xr_if {b : Bool} (h : ET K tt (vw ρ ω) b) (h1 : b = true → XR K W C t ρ ω ρ') (h2 : b = false → XR K W C u ρ ω ρ') : XR K W C (tIfS tt t u) ρ ω ρ' := fun H0 Hm0 E σ H Hm S q => by
  obtain ⟨Hv, s1, s2, s3, s4, s5, s6⟩ := S.view
  refine h σ H Hv s1 s4 s3 _ fun H2 Hv2 g => ?_
  obtain ⟨Hm2, em, S2, back⟩ := S.hide s2 s6 g
  cases b with
  | true => exact h1 rfl H0 Hm0 E σ H2 Hm2 S2 q
  | false => exact h2 rfl H0 Hm0 E σ H2 Hm2 S2 q
theorem xr_ifT (h : ET K tt (vw ρ ω) true) (h1 : XR K W C t ρ ω ρ') : XR K W C (tIfS tt t u) ρ ω ρ' := xr_if h (fun _ => h1) (fun z => nomatch z)
theorem xr_ifF (h : ET K tt (vw ρ ω) false) (h1 : XR K W C u ρ ω ρ') : XR K W C (tIfS tt t u) ρ ω ρ' := xr_if h (fun z => nomatch z) (fun _ => h1)
theorem xr_drop (h : ER K W C te ρ) : XR K W C (tDrop te) ρ ω ρ := fun H0 Hm0 E σ H Hm S q =>
  h σ H Hm S.gr.sub S.len S.sd (fun H2 Hm2 g => q σ H2 Hm2 (S.grow g).unown) _
theorem xr_asg {g : TG} (h : ER K W C te ρ) : XR K W C (tAsg te g) ρ ω ρ := fun H0 Hm0 E σ H Hm S q =>
  h σ H Hm S.gr.sub S.len S.sd (fun H2 Hm2 g => q σ H2 Hm2 (S.grow g).unown) _
theorem xr_ret (h : ER K W C te ρ) : XR K W C (tRet te) ρ ω ρ := fun H0 Hm0 E σ H Hm S q =>
  h σ H Hm S.gr.sub S.len S.sd (fun H2 Hm2 g => q σ H2 Hm2 (S.grow g).unown) _
theorem xd_drop (h : ED K te (vw ρ ω) d) : XD K (tDrop te) ρ ω (.nx ρ ω) := fun H0 Hm0 E σ H Hm S f => by
  obtain ⟨Hv, s1, s2, s3, s4, s5, s6⟩ := S.view
  refine h σ H Hv s1 s4 s3 _ fun v H2 Hv2 g hv => ?_
  obtain ⟨Hm2, em, S2, back⟩ := S.hide s2 s6 g
  exact f σ H2 Hm2 em S2
/-- while: m turns go through, turn m lets an error out -/
theorem xr_while {tu : TS} (ρs : Nat → Rho) (ωs : Nat → Om) (m : Nat) (h0 : ρs 0 = ρ) (h0' : ωs 0 = ω) (h1 : ∀ i, i < m → ET K tt (vw (ρs i) (ωs i)) true ∧ XD K tu (ρs i) (ωs i) (.nx (ρs (i + 1)) (ωs (i + 1))))
    (h2 : ET K tt (vw (ρs m) (ωs m)) true ∧ XR K W C tu (ρs m) (ωs m) ρ') : XR K W C (tWhile tt tu) ρ ω ρ' := fun H0 Hm0 E σ H Hm S q => by
  refine ⟨fun k σ' H' => ∃ i, i + k = m ∧ ∃ Hm', Ex Hm Hm' ∧ Stt K H0 Hm0 H' Hm' σ' (ρs i) (ωs i), ⟨m, 0, by omega, Hm, Ex.refl _, by rw [h0, h0']; exact S⟩, ?_⟩
  rintro k σ1 H1 ⟨i, hik, Hm1, e1, S1⟩
  obtain ⟨Hv, s1, s2, s3, s4, s5, s6⟩ := S1.view
  by_cases hlt : i < m
  · obtain ⟨c1, c2⟩ := h1 i hlt
    refine c1 σ1 H1 Hv s1 s4 s3 _ fun H2 Hv2 g => ?_
    obtain ⟨Hm2, em, S2, back⟩ := S1.hide s2 s6 g
    simp only [if_true]
    exact ⟨_, fun σ' H' hN => hN, c2 H0 Hm0 { E with nx := fun σ' H' => ∃ m', m' < k ∧ ∃ i', i' + m' = m ∧ ∃ Hm', Ex Hm Hm' ∧ Stt K H0 Hm0 H' Hm' σ' (ρs i') (ωs i'), ct := fun σ' H' => ∃ m', m' < k ∧ ∃ i', i' + m' = m ∧ ∃ Hm', Ex Hm Hm' ∧ Stt K H0 Hm0 H' Hm' σ' (ρs i') (ωs i'), bk := E.nx } σ1 H2 Hm2 S2 fun σ' H' Hm' x S' => ⟨k - 1, by omega, i + 1, by omega, Hm', (e1.trans em).trans x, S'⟩⟩
  · have e : i = m := by omega
    subst e
    obtain ⟨c1, c2⟩ := h2
    refine c1 σ1 H1 Hv s1 s4 s3 _ fun H2 Hv2 g => ?_
    obtain ⟨Hm2, em, S2, back⟩ := S1.hide s2 s6 g
    simp only [if_true]
    exact ⟨fun _ _ => False, fun _ _ z => z.elim, c2 H0 Hm0 { E with nx := fun _ _ => False, ct := fun _ _ => False, bk := E.nx } σ1 H2 Hm2 S2 q⟩
/-! ### try -/
theorem xd_tryV {c : Value} {tb : WX → TS} {ts : Addr → Value → Option Addr → TS} {Wout : WX} (h : ∀ W : WX, XD K (tb W) ρ ω o) : XD K (fun D σ H => tb (wOnly K c ts Wout D) D σ H) ρ ω o := fun H0 Hm0 E σ H Hm S f => h _ H0 Hm0 E σ H Hm S f
theorem xd_tryX {c : Value} {tb : WX → TS} {ts : Addr → Value → Option Addr → TS} {Wout : WX} (h : ∀ W : WX, XR K W C (tb W) ρ ω ρ') (hm : PySem.W.exmOne K (.ref C) c = some true) (k : ∀ a, XD K (ts a (.ref C) none) ρ' none (.rt d)) : XD K (fun D σ H => tb (wOnly K c ts Wout D) D σ H) ρ ω (.rt d) := fun H0 Hm0 E σ H Hm S f =>
  h _ H0 Hm0 E σ H Hm S fun σ' H' Hm' S' => ⟨true, hm, fun _ a _ => k a H0 Hm0 E σ' H' Hm' S' f, fun z => nomatch z⟩
theorem xd_tryAsV {c : Value} {tb : WX → TS} {ts : Addr → Value → Option Addr → TS} {Wout : WX} (h : ∀ W : WX, XD K (tb W) ρ ω o) : XD K (fun D σ H => tb (wAs K c i ts Wout D) D σ H) ρ ω o := fun H0 Hm0 E σ H Hm S f => h _ H0 Hm0 E σ H Hm S f
/-- the suite hands back d; slot i holds the error -/
theorem xd_tryAsX {c : Value} {tb : WX → TS} {ts : Addr → Value → Option Addr → TS} {Wout : WX} (h : ∀ W : WX, XR K W C (tb W) ρ ω ρ') (hm : PySem.W.exmOne K (.ref C) c = some true) (hi : i < ρ'.length)
    (k : ∀ (a : Addr) H0 Hm0 (D : Ends) σ H Hm, Stt K H0 Hm0 H Hm σ (ρ'.set i none) none → σ[i]? = some (some (.ref a)) → (∀ v H Hm, Gr H0 Hm0 H Hm → Dp K Hm v d → D.rt v H) → ts a (.ref C) none D σ H) : XD K (fun D σ H => tb (wAs K c i ts Wout D) D σ H) ρ ω (.rt d) := fun H0 Hm0 E σ H Hm S f =>
  h _ H0 Hm0 E σ H Hm S fun σ' H' Hm' S' => ⟨true, hm, fun _ a _ => k a H0 Hm0 _ _ H' Hm' ⟨S'.gr, by rw [List.length_set, List.length_set]; exact S'.len, S'.sd.drop i _, trivial⟩ (List.getElem?_set_self (Nat.lt_of_lt_of_le hi S'.len)) f, fun z => nomatch z⟩
end
/-- isinstance(e, c) of the error that is held, its class told by the reading -/
def rIsX (K : PySem.W.Frag) (cls : Value) (d : Option Addr) (a : Addr) : List V → Hp → VK → Prop := fun xs H Q => ∃ D, cls = .ref D ∧ d = none ∧ ExcC K D ∧ rIsE K D a xs H Q
theorem call_isX (K : PySem.W.Frag) {X : Cx} (hK : X.K = K) {a : Addr} {oe : Obj} {cls : Value} {d : Option Addr} {pn : List (Addr × Obj)} (hz : Zc cls d oe) (hf : ∃ vs, oe.data = .fields vs) : CallR (X.suite a ((a, oe) :: pn)) (.builtin "isinstance") (rIsX K cls d a) := by
  subst hK
  intro pins s σ H xs us Q I r h
  obtain ⟨D, rfl, rfl, C, h⟩ := h
  exact call_isE C hz hf pins s σ H xs us Q I r h
/-- a def that may let an error out -/
theorem hasX_of {P : Program} {w : World} {K : PySem.W.Frag} {mg : Str → Option Value} {base : Heap} {x : Str} {st : Stmt} {f : Addr} {fd : FuncData} {N ps : List Str} {k : Nat} {R : List D → Res → Prop} (F : Fun K x x st f fd) (b : Binds K fd ps []) (hm : mg x = some (.ref f)) (S : FnScope N ps (defScope st)) (hN : ps.length ≤ N.length)
    (len : ∀ ds o, R ds o → ds.length = ps.length)
    (hbody : ∀ (cdv : Value) (A : Around) (outer : List Env) (s : Shared) (H : Hp) (E : XK), Room k (A.deeper (envOfC x (defScope st) s.heap.objs.size f cdv)) →
      ∃ t, PSs (cxOf (L2.CX P w) P w K mg base N x (defScope st) f cdv A outer s H E) (defBody st) t ∧ ∀ ds o, R ds o → match o with
        | .inl r => XD K t (startR N ds) none (.rt r)
        | .inr C => ∃ ρ', XR K (fun cls d _ H => E cls d H) C t (startR N ds) none ρ') : HasX P w K mg base (k + 1) x (SpX K R) := by
  refine ⟨f, fd, ps, F.okX S (fun vs H Q E h => ?_) (fun cdv A outer s H vs Q E hr h => ?_), hm, F.kp, b⟩
  · obtain ⟨ds, r, Hm, _, hd, hR, _⟩ := h
    rw [hd.len, len ds r hR]
  · obtain ⟨t, h1, h2⟩ := hbody cdv A outer s H E hr
    obtain ⟨ds, r, Hm, s1, hd, hR, q⟩ := h
    have hl := len ds r hR
    have S0 : Stt K H Hm H Hm (L2.start N vs) (startR N ds) none := by
      refine ⟨Gr.refl s1, ?_, start_sd hd, trivial⟩
      rw [startR_len (by omega)]
      have := hd.len
      unfold L2.start
      rw [List.length_append, List.length_map, List.length_replicate]
      omega
    refine ⟨t, h1, ?_⟩
    have h3 := h2 ds r hR
    cases r with
    | inl r => exact h3 H Hm _ (L2.start N vs) H Hm S0 fun v H' Hm' g hv => q v H' Hm' g hv
    | inr C =>
      obtain ⟨ρ', h3⟩ := h3
      exact h3 H Hm _ (L2.start N vs) H Hm S0 fun σ' H' Hm' S' => q H' Hm' S'.gr
end LM

set_option Elab.async false
set_option linter.all false
set_option maxRecDepth 100000
set_option maxHeartbeats 1000000
/-! LmY: texts, None, while by turns. -/
namespace LM
open PySem PySem.Spec PyProof.Rows L2 Evl
/-! ### text * int -/
def rep : Nat → Str → Str
  | 0, _ => Str.empty
  | k + 1, z => z ++ rep k z
theorem rep_fold (z : Str) : ∀ (k : Nat) (a : Array Nat), (List.replicate k z.cps).foldl (· ++ ·) a = a ++ (rep k z).cps
  | 0, a => by simp [rep, Str.empty]
  | k + 1, a => by
    rw [List.replicate_succ, List.foldl_cons, rep_fold z k]
    show a ++ z.cps ++ (rep k z).cps = a ++ (z.cps ++ (rep k z).cps)
    rw [Array.append_assoc]
theorem rep_len (z : Str) : ∀ k : Nat, (rep k z).length = k * z.length
  | 0 => by simp [rep, Str.empty, Str.length]
  | k + 1 => by rw [rep, Str.length_append, rep_len z k, Nat.succ_mul]; omega
theorem rep_one (z : Str) : rep 1 z = z := by
  show z ++ Str.empty = z
  exact Str.append_empty z
theorem rep_nil {z : Str} (h : z.length = 0) (k : Nat) : rep k z = z := by
  have e : z = Str.empty := by
    refine Str.ext' ?_
    show z.cps = #[]
    exact Array.eq_empty_of_size_eq_zero h
  subst e
  induction k with
  | zero => rfl
  | succ k ih => rw [rep, ih, Str.empty_append]
def rMulS : R2 := fun x y H Q => ∃ (z : Str) (n : Int), x = .str z ∧ y = .int n ∧ 0 ≤ n ∧ n ≤ 1000 ∧ z.length ≤ 1000 ∧ Q (.str (rep n.toNat z)) H
section
variable {X : Cx}
theorem op_mulS : OpR X (binaryOp .Mult) rMulS := by
  intro pins s σ H x y v u Q I rx ry ⟨z, n, ex, ey, h0, h1, hz, q⟩
  subst ex ey
  obtain ⟨t, rfl⟩ := rx
  obtain ⟨t', rfl⟩ := ry
  have big : z.length * n.toNat ≤ 1000000 := Nat.mul_le_mul hz (by omega : n.toNat ≤ 1000)
  refine PySem.P.mul_str ?_ (fun c _ => ?_) (fun c _ => ?_) ?_
  · rw [decide_eq_false (by omega), decide_eq_false (by omega)]; rfl
  · have h2 : (1000 : Int) ≤ (2 ^ 63 - 1) / n := by
      rw [Int.le_ediv_iff_mul_le (by omega)]
      have : (1000 : Int) * n ≤ 1000 * 1000 := Int.mul_le_mul_of_nonneg_left h1 (by decide)
      omega
    omega
  · unfold Builtin.Str.tooLong
    exact decide_eq_false (by rw [sizeLine_eq]; omega)
  · by_cases c : n < 1
    · rw [if_pos c]
      have e : n.toNat = 0 := by omega
      rw [e] at q
      exact ⟨by decide, ⟨.str Str.empty, H, I.tok _, ⟨_, rfl⟩, q⟩⟩
    · rw [if_neg c]
      by_cases d : (n == 1 || z.length == 0) = true
      · rw [if_pos d]
        have e : rep n.toNat z = z := by
          rw [Bool.or_eq_true, beq_iff_eq, beq_iff_eq] at d
          rcases d with d | d
          · rw [d]; exact rep_one z
          · exact rep_nil d _
        rw [e] at q
        exact ⟨.str z, H, I, ⟨_, rfl⟩, q⟩
      · rw [if_neg d]
        have e : (⟨(List.replicate n.toNat z.cps).foldl (· ++ ·) #[]⟩ : Str) = rep n.toNat z := Str.ext' (by
          show (List.replicate n.toNat z.cps).foldl (· ++ ·) #[] = _
          rw [rep_fold]; simp)
        rw [e]
        refine ⟨?_, ⟨.str (rep n.toNat z), H, I.tok _, ⟨_, rfl⟩, q⟩⟩
        rw [rep_len, Nat.mul_comm, sizeLine_eq]
        omega
end
abbrev rMulV (K : PySem.W.Frag) : R2 := orR (rMulU K) rMulS
theorem op_mulVK (K : PySem.W.Frag) {X : Cx} (h : X.K = K) : OpR X (binaryOp .Mult) (rMulV K) := (op_mulK K h).or op_mulS
section
variable {K : PySem.W.Frag} {ρ ρ' : Rho} {ω ω' : Om} {o : Out} {te to : TE} {tt : TT} {tu : TS} {d : D} {a b c : D}
theorem rd_mulV (h : RD K (rMulU K) a b c) : RD K (rMulV K) a b c := rd_l h
theorem rd_mulS {z : Str} {n : Int} (h0 : 0 ≤ n) (h1 : n ≤ 1000) (hz : z.length ≤ 1000) : RD K (rMulV K) (.str z) (.int n) (.str (rep n.toNat z)) := fun H Hm x y s hx hy Q q =>
  .inr ⟨z, n, dp_str hx, dp_int hy, h0, h1, hz, q _ H Hm (Gr.refl s) (.str _)⟩
/-! ### text[i], text.split(sep), len(text), x is None -/
theorem rd_ixS {z : Str} {i : Int} {ch : Nat} (hz : z.length ≤ 1000000) (h : atI z.cps.toList i = some ch) : RD K (rIx K) (.str z) (.int i) (.str ⟨#[ch]⟩) := fun H Hm x y s hx hy Q q =>
  .inr (.inr ⟨z, i, ch, dp_str hx, dp_int hy, Nat.le_trans hz (by decide), h, q _ H Hm (Gr.refl s) (.str _)⟩)
abbrev rSplit : V → List V → Hp → VK → Prop := fun x xs H Q => ∃ a b, x = .str a ∧ xs = [.str b] ∧ (b.length == 0) = false ∧ a.length + 2 ≤ sizeLine ∧ rNewStrs (Txt.split a b) H Q
theorem el_split {x y : Str} (ho : ED K to ρ (.str x)) (he : ED K te ρ (.str y)) (hy : (y.length == 0) = false) (hz : x.length ≤ 1000000) : EL K (tM1 rSplit to te) ρ ((Txt.split x y).map PyData.str) := fun σ H Hm s l hs Q q =>
  ho σ H Hm s l hs _ fun v H1 Hm1 g1 h1 => ⟨⟨x, dp_str h1⟩, he σ H1 Hm1 g1.sub l (hs.mono g1.em) _ fun u H2 Hm2 g2 h2 =>
    ⟨x, y, dp_str h1, by rw [dp_str h2], hy, Nat.le_trans (Nat.add_le_add_right hz 2) (by decide), fun p hp => q p _ _ Hm2 ((g1.trans g2).trans (Gr.priv g2.sub hp)) (fresh_back (g1.ex.trans g2.ex) hp) (fresh_back g2.sub hp) upd_same (by
      clear hp q
      generalize Txt.split x y = l
      induction l with
      | nil => exact .nil
      | cons w l ih => exact .cons (.str w) ih)⟩⟩
def isNone : D → Bool
  | .none => true
  | _ => false
theorem dp_isN {H : Hp} {v : V} {d : D} (h : Dp K H v d) : decide (v = .non) = isNone d := by
  cases h <;> simp [isNone]
theorem rd_isN {d : D} : RD K (fun x y H Q => y = .non ∧ Q (.bl (decide (x = .non))) H) d .none (.bool (isNone d)) := fun H Hm x y s hx hy Q q => ⟨dp_none hy, by
  rw [dp_isN hx]; exact q _ H Hm (Gr.refl s) (.bl _)⟩
theorem rd_notN {d : D} : RD K (fun x y H Q => y = .non ∧ Q (.bl (!decide (x = .non))) H) d .none (.bool (!isNone d)) := fun H Hm x y s hx hy Q q => ⟨dp_none hy, by
  rw [dp_isN hx]; exact q _ H Hm (Gr.refl s) (.bl _)⟩
/-! ### while, turn by turn -/
inductive Wh (K : PySem.W.Frag) (tt : TT) (tu : TS) : Nat → Rho → Om → Out → Prop
  | stop {ρ : Rho} {ω : Om} : ET K tt (vw ρ ω) false → Wh K tt tu 0 ρ ω (.nx ρ ω)
  | brk {ρ : Rho} {ω : Om} {ρ' : Rho} {ω' : Om} : ET K tt (vw ρ ω) true → XD K tu ρ ω (.bk ρ' ω') → Wh K tt tu 0 ρ ω (.nx ρ' ω')
  | ret {ρ : Rho} {ω : Om} {d : D} : ET K tt (vw ρ ω) true → XD K tu ρ ω (.rt d) → Wh K tt tu 0 ρ ω (.rt d)
  | step {m : Nat} {ρ : Rho} {ω : Om} {ρ' : Rho} {ω' : Om} {o : Out} : ET K tt (vw ρ ω) true → XD K tu ρ ω (.nx ρ' ω') → Wh K tt tu m ρ' ω' o → Wh K tt tu (m + 1) ρ ω o
def lead {α : Type} (a : α) (f : Nat → α) : Nat → α
  | 0 => a
  | i + 1 => f i
theorem Wh.seq {m : Nat} (h : Wh K tt tu m ρ ω o) : ∃ (ρs : Nat → Rho) (ωs : Nat → Om), ρs 0 = ρ ∧ ωs 0 = ω ∧ (∀ i, i < m → ET K tt (vw (ρs i) (ωs i)) true ∧ XD K tu (ρs i) (ωs i) (.nx (ρs (i + 1)) (ωs (i + 1)))) ∧
    ((ET K tt (vw (ρs m) (ωs m)) false ∧ o = .nx (ρs m) (ωs m)) ∨ (ET K tt (vw (ρs m) (ωs m)) true ∧ ((∃ r, o = .rt r ∧ XD K tu (ρs m) (ωs m) (.rt r)) ∨ ∃ ρ' ω', o = .nx ρ' ω' ∧ XD K tu (ρs m) (ωs m) (.bk ρ' ω')))) := by
  induction h with
  | @stop ρ ω h => exact ⟨fun _ => ρ, fun _ => ω, rfl, rfl, fun i hi => by omega, .inl ⟨h, rfl⟩⟩
  | @brk ρ ω ρ' ω' h h2 => exact ⟨fun _ => ρ, fun _ => ω, rfl, rfl, fun i hi => by omega, .inr ⟨h, .inr ⟨ρ', ω', rfl, h2⟩⟩⟩
  | @ret ρ ω d h h2 => exact ⟨fun _ => ρ, fun _ => ω, rfl, rfl, fun i hi => by omega, .inr ⟨h, .inl ⟨d, rfl, h2⟩⟩⟩
  | @step m ρ ω ρ' ω' o h h2 _ ih =>
    obtain ⟨ρs, ωs, e1, e2, c1, c2⟩ := ih
    refine ⟨lead ρ ρs, lead ω ωs, rfl, rfl, fun i hi => ?_, c2⟩
    cases i with
    | zero => exact ⟨h, by show XD K tu ρ ω (.nx (ρs 0) (ωs 0)); rw [e1, e2]; exact h2⟩
    | succ i => exact c1 i (by omega)
theorem xd_wh {m : Nat} (h : Wh K tt tu m ρ ω o) : XD K (tWhile tt tu) ρ ω o := by
  obtain ⟨ρs, ωs, e1, e2, c1, c2⟩ := h.seq
  exact xd_while ρs ωs m e1 e2 c1 c2
inductive WhR (K : PySem.W.Frag) (W : WX) (C : Addr) (tt : TT) (tu : TS) : Nat → Rho → Om → Rho → Prop
  | here {ρ : Rho} {ω : Om} {ρ' : Rho} : ET K tt (vw ρ ω) true → XR K W C tu ρ ω ρ' → WhR K W C tt tu 0 ρ ω ρ'
  | step {m : Nat} {ρ : Rho} {ω : Om} {ρ1 : Rho} {ω1 : Om} {ρ' : Rho} : ET K tt (vw ρ ω) true → XD K tu ρ ω (.nx ρ1 ω1) → WhR K W C tt tu m ρ1 ω1 ρ' → WhR K W C tt tu (m + 1) ρ ω ρ'
theorem xr_wh {W : WX} {C : Addr} {m : Nat} (h : WhR K W C tt tu m ρ ω ρ') : XR K W C (tWhile tt tu) ρ ω ρ' := by
  have key : ∃ (ρs : Nat → Rho) (ωs : Nat → Om), ρs 0 = ρ ∧ ωs 0 = ω ∧ (∀ i, i < m → ET K tt (vw (ρs i) (ωs i)) true ∧ XD K tu (ρs i) (ωs i) (.nx (ρs (i + 1)) (ωs (i + 1)))) ∧ (ET K tt (vw (ρs m) (ωs m)) true ∧ XR K W C tu (ρs m) (ωs m) ρ') := by
    induction h with
    | @here ρ ω ρ' h h2 => exact ⟨fun _ => ρ, fun _ => ω, rfl, rfl, fun i hi => by omega, h, h2⟩
    | @step m ρ ω ρ1 ω1 ρ' h h2 _ ih =>
      obtain ⟨ρs, ωs, e1, e2, c1, c2⟩ := ih
      refine ⟨lead ρ ρs, lead ω ωs, rfl, rfl, fun i hi => ?_, c2⟩
      cases i with
      | zero => exact ⟨h, by show XD K tu ρ ω (.nx (ρs 0) (ωs 0)); rw [e1, e2]; exact h2⟩
      | succ i => exact c1 i (by omega)
  obtain ⟨ρs, ωs, e1, e2, c1, c2⟩ := key
  exact xr_while ρs ωs m e1 e2 c1 c2
end
end LM

set_option Elab.async false
set_option linter.all false
set_option maxRecDepth 100000
set_option maxHeartbeats 4000000
namespace LM
open PySem PySem.Spec PyProof.Rows L2 Evl
def topS (i : Nat) : Stmt := PySem.Challenge.pw_lastmove_k04_whole_texts_of_moves.main.body.getD i (.Pass ⟨0, 0, 0, 0⟩)
/-! the mathematics -/
def cellAt (ns : List Int) (k : Int) : Int := ns.getD k.toNat 0
def mixed (ns : List Int) (k : Int) : Int :=
  (((cellAt ns k + 7919 * k + 1) * 48271 % 2147483647) * ((cellAt ns k + 7919 * k + 1) * 48271 % 2147483647) + 7 * ((cellAt ns k + 7919 * k + 1) * 48271 % 2147483647) + k) % 2147483629
def drawn (n k : Int) : Int :=
  (((n + 104729 * k + 17) * 69621 % 2147483647) * ((n + 104729 * k + 17) * 69621 % 2147483647) + 3 * ((n + 104729 * k + 17) * 69621 % 2147483647) + k) % 2147483629
theorem drawn_bd (n k : Int) : 0 ≤ drawn n k ∧ drawn n k < 2147483629 := ⟨Int.emod_nonneg _ (by decide), Int.emod_lt_of_pos _ (by decide)⟩
theorem mixed_bd (ns : List Int) (k : Int) : 0 ≤ mixed ns k ∧ mixed ns k < 2147483629 := ⟨Int.emod_nonneg _ (by decide), Int.emod_lt_of_pos _ (by decide)⟩
theorem cmul_sq {i : Int} (h0 : 0 ≤ i) (h1 : i < 4294967296) : CMul i i := .inl ⟨by omega, by omega⟩
theorem mod_bd (x : Int) : 0 ≤ x % 2147483647 ∧ x % 2147483647 < 4294967296 := ⟨Int.emod_nonneg _ (by decide), by have := Int.emod_lt_of_pos x (show (0 : Int) < 2147483647 by decide); omega⟩
section
variable {P : Program} {w : World} {K : PySem.W.Frag} {mg : Str → Option Value} {base : Heap} {f : Addr} {fd : FuncData} {k j : Nat}
def RCell (ds : List D) (r : D) : Prop := ∃ ns k, ds = [.list (ns.map PyData.int), .int k] ∧ 0 ≤ k ∧ r = .int (cellAt ns k)
def RMixed (ds : List D) (r : D) : Prop := ∃ ns k, ds = [.list (ns.map PyData.int), .int k] ∧ 0 ≤ k ∧ k ≤ 1000000 ∧ r = .int (mixed ns k)
def RDrawn (ds : List D) (r : D) : Prop := ∃ n k, ds = [.int n, .int k] ∧ 0 ≤ k ∧ k ≤ 1000000 ∧ r = .int (drawn n k)
end
/-! ### _law_cell_at -/
abbrev sLawCellAt : Stmt := topS 19
abbrev nLawCellAt : List Str := ["_law_script", "_law_k"]
theorem scLawCellAt : FnScope nLawCellAt ["_law_script", "_law_k"] (defScope sLawCellAt) := ⟨rfl, rfl, rfl, by decide +kernel, rfl, by decide +kernel, by decide +kernel⟩
section
variable {P : Program} {w : World} {K : PySem.W.Frag} {mg : Str → Option Value} {base : Heap} {f : Addr} {fd : FuncData} {k j : Nat}
theorem has__law_cell_at (B : BI mg) (F : Fun K "_law_cell_at" "_law_cell_at" sLawCellAt f fd) (b : Binds K fd ["_law_script", "_law_k"] []) (hm : mg "_law_cell_at" = some (.ref f)) : Has P w K mg base (k + 1) "_law_cell_at" (SpR K RCell) := by
  refine has_of F b hm scLawCellAt (by decide) (fun ds r h => by obtain ⟨_, _, rfl, _⟩ := h; rfl) (fun cdv A outer s H E hr => ⟨_, (pss_cons (ps_if (pt_cmpR (op_ltK K rfl (hu64 hr)) (pv 1) (pe_callB (call_lenK K rfl) (by rfl) B.len boot_len (pa_cons (pv 0) pa_nil)) (nomark _)) (pss_one (ps_ret (pe_ix (ix_K K rfl) (pv 0) (pv 1) (fun _ _ => rfl)))) pss_nil)
    (pss_one (ps_ret pe_int))), fun ds r h => ?_⟩)
  try dsimp only [cxOf, Cx.nox, Cx.wish]
  obtain ⟨ns, z, rfl, h0, rfl⟩ := h
  refine xd_ifs (by (repeat' (first
    | exact ed_var rfl | exact ed_int | exact ed_bl | exact ed_str | exact ed_non
    | exact eds_nil | with_reducible refine' eds_cons ?_ ?_
    | exact rd_addI | exact rd_sub | exact rd_ltI | exact rd_geI | exact rd_gtI | exact rd_le | exact rd_lt | exact rd_eqI | exact rd_neI | exact rd_eqS | exact rd_neS
    | exact rd_mulI (.inr ⟨by decide, by decide⟩) | exact rd_mulI (.inl ⟨by decide, by decide⟩) | exact rd_mod (by decide) | exact rd_div ⟨by decide, by decide⟩
    | exact ud_neg
    | exact et_yes
    | with_reducible refine' ed_op ?_ ?_ ?_ | with_reducible refine' ed_un ?_ ?_ | with_reducible refine' ed_tup ?_ ?_ | with_reducible refine' et_test ?_ | with_reducible refine' et_B ?_ | with_reducible refine ed_notV ?_ | with_reducible refine et_not ?_
    | exact cd_max2 | exact cd_min2 | exact cd_abs | exact cd_lenL | exact cd_lenT | exact cd_tupL | exact cd_tupT
    | exact ed_isi (by assumption) rfl
    | with_reducible refine' ed_cb ?_ ?_ ))) (fun c => ?_) (fun c => ?_)
  · have c' := of_decide_eq_true c
    rw [List.length_map] at c'
    refine xd_rets ?_
    refine ed_op (ed_var rfl) (ed_var rfl) (rd_ixUL (atI_map (atI_z h0 ?_)))
    unfold cellAt
    have : z.toNat < ns.length := by omega
    rw [List.getD_eq_getElem?_getD, List.getElem?_eq_getElem this]; rfl
  · have c' := of_decide_eq_false c
    rw [List.length_map] at c'
    refine xd_nexts (xd_ret (ed_is ed_int ?_))
    unfold cellAt
    rw [List.getD_eq_getElem?_getD, List.getElem?_eq_none (by omega)]; rfl
end
/-! ### _law_mixed -/
abbrev sLawMixed : Stmt := topS 20
abbrev nLawMixed : List Str := ["_law_script", "_law_k", "_law_drawn_here"]
theorem scLawMixed : FnScope nLawMixed ["_law_script", "_law_k"] (defScope sLawMixed) := ⟨rfl, rfl, rfl, by decide +kernel, rfl, by decide +kernel, by decide +kernel⟩
section
variable {P : Program} {w : World} {K : PySem.W.Frag} {mg : Str → Option Value} {base : Heap} {f : Addr} {fd : FuncData} {k j : Nat}
theorem has__law_mixed (B : BI mg) (F : Fun K "_law_mixed" "_law_mixed" sLawMixed f fd) (b : Binds K fd ["_law_script", "_law_k"] []) (hm : mg "_law_mixed" = some (.ref f)) (h__law_cell_at : Has P w K mg base k "_law_cell_at" (SpR K RCell)) : Has P w K mg base (k + 1) "_law_mixed" (SpR K RMixed) := by
  refine has_of F b hm scLawMixed (by decide) (fun ds r h => by obtain ⟨_, _, rfl, _⟩ := h; rfl) (fun cdv A outer s H E hr => ⟨_, (pss_cons (ps_set (i := 2) scLawMixed.nd rfl (by first | exact .inl rfl | exact .inr rfl) (pe_op op_mod (pe_op (op_mulK K rfl) (pe_op (op_addK K rfl) (pe_op (op_addK K rfl) (pe_h h__law_cell_at hr (by omega) (by rfl) (pa_cons (pv 0) (pa_cons (pv 1) pa_nil))) (pe_op (op_mulK K rfl) pe_int (pv 1))) pe_int) pe_int) pe_int))
    (pss_one (ps_ret (pe_op op_mod (pe_op (op_addK K rfl) (pe_op (op_addK K rfl) (pe_op (op_mulK K rfl) (pv 2) (pv 2)) (pe_op (op_mulK K rfl) pe_int (pv 2))) (pv 1)) pe_int)))), fun ds r h => ?_⟩)
  try dsimp only [cxOf, Cx.nox, Cx.wish]
  obtain ⟨ns, z, rfl, h0, h1, rfl⟩ := h
  have m := mod_bd ((cellAt ns z + 7919 * z + 1) * 48271)
  refine xd_seq (xd_asg (d := .int ((cellAt ns z + 7919 * z + 1) * 48271 % 2147483647)) ?_) (xd_ret (d := .int (mixed ns z)) ?_)
  · refine' ed_op (ed_op (ed_op (ed_op (ed_call (eds_cons (ed_var rfl) (eds_cons (ed_var rfl) eds_nil)) ⟨ns, z, rfl, h0, rfl⟩) ?_ ?_) ?_ ?_) ?_ ?_) ?_ ?_ <;> (repeat' (first
    | exact ed_var rfl | exact ed_int | exact ed_bl | exact ed_str | exact ed_non
    | exact eds_nil | with_reducible refine' eds_cons ?_ ?_
    | exact rd_addI | exact rd_sub | exact rd_ltI | exact rd_geI | exact rd_gtI | exact rd_le | exact rd_lt | exact rd_eqI | exact rd_neI | exact rd_eqS | exact rd_neS
    | exact rd_mulI (.inr ⟨by decide, by decide⟩) | exact rd_mulI (.inl ⟨by decide, by decide⟩) | exact rd_mod (by decide) | exact rd_div ⟨by decide, by decide⟩
    | exact ud_neg
    | exact et_yes
    | with_reducible refine' ed_op ?_ ?_ ?_ | with_reducible refine' ed_un ?_ ?_ | with_reducible refine' ed_tup ?_ ?_ | with_reducible refine' et_test ?_ | with_reducible refine' et_B ?_ | with_reducible refine ed_notV ?_ | with_reducible refine et_not ?_
    | exact cd_max2 | exact cd_min2 | exact cd_abs | exact cd_lenL | exact cd_lenT | exact cd_tupL | exact cd_tupT
    | exact ed_isi (by assumption) rfl
    | with_reducible refine' ed_cb ?_ ?_ ))
  · refine' ed_op (ed_op (ed_op (ed_op (ed_var rfl) (ed_var rfl) (rd_mulI (cmul_sq m.1 m.2))) ?_ ?_) ?_ ?_) ?_ ?_ <;> (repeat' (first
    | exact ed_var rfl | exact ed_int | exact ed_bl | exact ed_str | exact ed_non
    | exact eds_nil | with_reducible refine' eds_cons ?_ ?_
    | exact rd_addI | exact rd_sub | exact rd_ltI | exact rd_geI | exact rd_gtI | exact rd_le | exact rd_lt | exact rd_eqI | exact rd_neI | exact rd_eqS | exact rd_neS
    | exact rd_mulI (.inr ⟨by decide, by decide⟩) | exact rd_mulI (.inl ⟨by decide, by decide⟩) | exact rd_mod (by decide) | exact rd_div ⟨by decide, by decide⟩
    | exact ud_neg
    | exact et_yes
    | with_reducible refine' ed_op ?_ ?_ ?_ | with_reducible refine' ed_un ?_ ?_ | with_reducible refine' ed_tup ?_ ?_ | with_reducible refine' et_test ?_ | with_reducible refine' et_B ?_ | with_reducible refine ed_notV ?_ | with_reducible refine et_not ?_
    | exact cd_max2 | exact cd_min2 | exact cd_abs | exact cd_lenL | exact cd_lenT | exact cd_tupL | exact cd_tupT
    | exact ed_isi (by assumption) rfl
    | with_reducible refine' ed_cb ?_ ?_ ))
end
/-! ### _law_drawn -/
abbrev sLawDrawn : Stmt := topS 21
abbrev nLawDrawn : List Str := ["_law_number", "_law_k", "_law_drawn_here"]
theorem scLawDrawn : FnScope nLawDrawn ["_law_number", "_law_k"] (defScope sLawDrawn) := ⟨rfl, rfl, rfl, by decide +kernel, rfl, by decide +kernel, by decide +kernel⟩
section
variable {P : Program} {w : World} {K : PySem.W.Frag} {mg : Str → Option Value} {base : Heap} {f : Addr} {fd : FuncData} {k j : Nat}
theorem has__law_drawn (B : BI mg) (F : Fun K "_law_drawn" "_law_drawn" sLawDrawn f fd) (b : Binds K fd ["_law_number", "_law_k"] []) (hm : mg "_law_drawn" = some (.ref f)) : Has P w K mg base (k + 1) "_law_drawn" (SpR K RDrawn) := by
  refine has_of F b hm scLawDrawn (by decide) (fun ds r h => by obtain ⟨_, _, rfl, _⟩ := h; rfl) (fun cdv A outer s H E hr => ⟨_, (pss_cons (ps_set (i := 2) scLawDrawn.nd rfl (by first | exact .inl rfl | exact .inr rfl) (pe_op op_mod (pe_op (op_mulK K rfl) (pe_op (op_addK K rfl) (pe_op (op_addK K rfl) (pv 0) (pe_op (op_mulK K rfl) pe_int (pv 1))) pe_int) pe_int) pe_int))
    (pss_one (ps_ret (pe_op op_mod (pe_op (op_addK K rfl) (pe_op (op_addK K rfl) (pe_op (op_mulK K rfl) (pv 2) (pv 2)) (pe_op (op_mulK K rfl) pe_int (pv 2))) (pv 1)) pe_int)))), fun ds r h => ?_⟩)
  try dsimp only [cxOf, Cx.nox, Cx.wish]
  obtain ⟨n, z, rfl, h0, h1, rfl⟩ := h
  have m := mod_bd ((n + 104729 * z + 17) * 69621)
  refine xd_seq (xd_asg (d := .int ((n + 104729 * z + 17) * 69621 % 2147483647)) ?_) (xd_ret (d := .int (drawn n z)) ?_)
  · (repeat' (first
    | exact ed_var rfl | exact ed_int | exact ed_bl | exact ed_str | exact ed_non
    | exact eds_nil | with_reducible refine' eds_cons ?_ ?_
    | exact rd_addI | exact rd_sub | exact rd_ltI | exact rd_geI | exact rd_gtI | exact rd_le | exact rd_lt | exact rd_eqI | exact rd_neI | exact rd_eqS | exact rd_neS
    | exact rd_mulI (.inr ⟨by decide, by decide⟩) | exact rd_mulI (.inl ⟨by decide, by decide⟩) | exact rd_mod (by decide) | exact rd_div ⟨by decide, by decide⟩
    | exact ud_neg
    | exact et_yes
    | with_reducible refine' ed_op ?_ ?_ ?_ | with_reducible refine' ed_un ?_ ?_ | with_reducible refine' ed_tup ?_ ?_ | with_reducible refine' et_test ?_ | with_reducible refine' et_B ?_ | with_reducible refine ed_notV ?_ | with_reducible refine et_not ?_
    | exact cd_max2 | exact cd_min2 | exact cd_abs | exact cd_lenL | exact cd_lenT | exact cd_tupL | exact cd_tupT
    | exact ed_isi (by assumption) rfl
    | with_reducible refine' ed_cb ?_ ?_ ))
  · refine' ed_op (ed_op (ed_op (ed_op (ed_var rfl) (ed_var rfl) (rd_mulI (cmul_sq m.1 m.2))) ?_ ?_) ?_ ?_) ?_ ?_ <;> (repeat' (first
    | exact ed_var rfl | exact ed_int | exact ed_bl | exact ed_str | exact ed_non
    | exact eds_nil | with_reducible refine' eds_cons ?_ ?_
    | exact rd_addI | exact rd_sub | exact rd_ltI | exact rd_geI | exact rd_gtI | exact rd_le | exact rd_lt | exact rd_eqI | exact rd_neI | exact rd_eqS | exact rd_neS
    | exact rd_mulI (.inr ⟨by decide, by decide⟩) | exact rd_mulI (.inl ⟨by decide, by decide⟩) | exact rd_mod (by decide) | exact rd_div ⟨by decide, by decide⟩
    | exact ud_neg
    | exact et_yes
    | with_reducible refine' ed_op ?_ ?_ ?_ | with_reducible refine' ed_un ?_ ?_ | with_reducible refine' ed_tup ?_ ?_ | with_reducible refine' et_test ?_ | with_reducible refine' et_B ?_ | with_reducible refine ed_notV ?_ | with_reducible refine et_not ?_
    | exact cd_max2 | exact cd_min2 | exact cd_abs | exact cd_lenL | exact cd_lenT | exact cd_tupL | exact cd_tupT
    | exact ed_isi (by assumption) rfl
    | with_reducible refine' ed_cb ?_ ?_ ))
end
end LM

set_option Elab.async false
set_option linter.all false
set_option maxRecDepth 100000
set_option maxHeartbeats 4000000
namespace LM
open PySem PySem.Spec PyProof.Rows L2 Evl
section
def ROnce (ds : List D) (r : D) : Prop := ∃ ts : List T, ds = [.list (ts.map T.data)] ∧ (∀ t ∈ ts, full t = true) ∧ T.depths ts ≤ 60 ∧ ts.length ≤ 50000 ∧ r = .tuple ((T.set ts).map T.data)
/-- the game of these moves -/
def T.gm (ls rs : List T) : T := .n [.n ls, .n rs]
theorem T.gm_data (ls rs : List T) : (T.gm ls rs).data = .tuple [.tuple (ls.map T.data), .tuple (rs.map T.data)] := by
  unfold T.gm
  rw [T.data_n, List.map_cons, List.map_cons, List.map_nil, T.data_n, T.data_n]
def RBy (ds : List D) (r : D) : Prop := ∃ ls rs : List T, ds = [.list (ls.map T.data), .list (rs.map T.data)] ∧ (∀ t ∈ ls, full t = true) ∧ (∀ t ∈ rs, full t = true) ∧ T.depths ls ≤ 60 ∧ T.depths rs ≤ 60 ∧ ls.length ≤ 50000 ∧ rs.length ≤ 50000 ∧ r = (T.gm (T.set ls) (T.set rs)).data
end
/-! ### _law_once -/
abbrev sLawOnce : Stmt := topS 22
abbrev nLawOnce : List Str := ["_law_some", "_law_found", "_law_one"]
theorem scLawOnce : FnScope nLawOnce ["_law_some"] (defScope sLawOnce) := ⟨rfl, rfl, rfl, by decide +kernel, rfl, by decide +kernel, by decide +kernel⟩
section
variable {P : Program} {w : World} {K : PySem.W.Frag} {mg : Str → Option Value} {base : Heap} {f : Addr} {fd : FuncData} {k j : Nat}
theorem has__law_once (B : BI mg) (F : Fun K "_law_once" "_law_once" sLawOnce f fd) (b : Binds K fd ["_law_some"] []) (hm : mg "_law_once" = some (.ref f)) : Has P w K mg base (k + 1) "_law_once" (SpR K ROnce) := by
  refine has_of F b hm scLawOnce (by decide) (fun ds r h => by obtain ⟨_, rfl, _⟩ := h; rfl) (fun cdv A outer s H E hr => ⟨_, (pss_cons (ps_set (i := 1) scLawOnce.nd rfl (by first | exact .inl rfl | exact .inr rfl) (pe_lst pa_nil))
    (pss_cons (ps_for PassesOwn.never rfl (pi_listK K rfl (pe_callB (cr_sortedK K rfl (hu100 hr)) (by rfl) B.sorted boot_sorted (pa_cons (pv 0) pa_nil))) (pg_name (i := 2) scLawOnce.nd rfl (by first | exact .inl rfl | exact .inr rfl)) (pss_one (ps_if (pw_or (pt_cmpR (op_eqK K rfl (hu64 hr)) (pv 1) (pe_lst pa_nil) (nomark _)) (pw_or1 (pt_cmpR (op_neK K rfl (hu64 hr)) (pe_ix (ix_K K rfl) (pv 1) (pe_un un_neg pe_int) (fun _ _ => rfl)) (pv 2) (nomark _)))).pt (pss_one (ps_expr (pe_bmK K rfl (pe_bm PySem.F.plainAttrs_list PySem.F.slot_list_append PySem.F.type_list_append mt_append (pv 1) (pa_cons (pv 2) pa_nil))))) pss_nil)))
    (pss_one (ps_ret (pe_callTy (call_tupleK K rfl) (by rfl) B.tuple boot_tuple (pa_cons (pv 1) pa_nil)))))), fun ds r h => ?_⟩)
  try dsimp only [cxOf, Cx.nox, Cx.wish]
  obtain ⟨ts, rfl, hf, hd, hn, rfl⟩ := h
  have o1 : ∀ i, T.Asc (T.once [] ((T.sort ts).take i)) ∧ ∀ x, x ∈ T.once [] ((T.sort ts).take i) ↔ x ∈ [] ∨ x ∈ (T.sort ts).take i := fun i => T.once_set ((T.sort ts).take i) [] List.Pairwise.nil ((T.sort_srt ts).sublist (List.take_sublist _ _)) (fun a ha => by cases ha)
  have on : ∀ i, ∀ x ∈ T.once [] ((T.sort ts).take i), x ∈ ts := fun i x hx => by
    rcases ((o1 i).2 x).mp hx with h | h
    · cases h
    · exact T.mem_sort.mp (List.mem_of_mem_take h)
  have dn : ∀ i, T.depths (T.once [] ((T.sort ts).take i)) ≤ 60 := fun i => T.depths_le fun x hx => Nat.le_trans (T.depth_mem (on i x hx)) hd
  have ln : ∀ i, (T.once [] ((T.sort ts).take i)).length ≤ 50000 := fun i => Nat.le_trans ((o1 i).1.nodup.length_le_of_subset (on i)) hn
  refine (show XD K _ [some (.list (ts.map T.data)), none, none] none _ from ?_)
  refine xd_seq (xd_asgOwn (el_lst eds_nil)) ?_
  refine xd_seq (xd_forL (fun _ => [some (.list (ts.map T.data)), none, none]) (fun i => some (1, (T.once [] ((T.sort ts).take i)).map T.data)) (ed_el (el_cb (eds_cons (ed_var rfl) eds_nil) (cl_sortedTr hf hd))) rfl rfl (fun i q e => by cases e; show (1 : Nat) ≠ 2; decide) (Go.allF (fun _ d => by simp) (fun _ => rfl) fun i d hi => ?_)) ?_
  · skip
    rw [List.getElem?_map] at hi
    obtain ⟨x, hx, rfl⟩ := Option.map_eq_some_iff.mp hi
    have hmem : x ∈ ts := T.mem_sort.mp (List.mem_of_getElem? hx)
    have hdx : x.depth ≤ 60 := Nat.le_trans (T.depth_mem hmem) hd
    have hd0 := dn i
    have hl0 := ln i
    rw [List.take_add_one, hx, Option.toList_some, T.once_app]
    generalize T.once [] ((T.sort ts).take i) = ys at *
    have sh : SeqAt.shaped (.list (ys.map T.data)) = true := (fit_lst.mpr (fit_Ts hd0)).shaped (by decide)
    have shx : SeqAt.shaped x.data = true := (fit_T (Nat.le_refl _)).shaped (by omega)
    refine xd_if (b := decide (ys.getLast? ≠ some x)) (et_is' (et_or (x := ys.isEmpty) (y := decide (ys.getLast? ≠ some x)) (et_is' (et_test (ed_op (ed_var rfl) (ed_el (el_lst eds_nil)) (rd_eqU sh rfl))) ?_) fun ne => ?_) ?_) (fun c => ?_) (fun c => ?_)
    · rw [eqv_list, eqvs_nil]; simp
    · have hne : ys ≠ [] := fun e => by rw [e] at ne; cases ne
      obtain ⟨zs, z, rfl⟩ : ∃ zs z, ys = zs ++ [z] := ⟨_, _, (List.dropLast_concat_getLast hne).symm⟩
      have hz : z.depth ≤ 60 := Nat.le_trans (T.depth_mem (by simp)) hd0
      refine et_is' (et_test (ed_op (ed_op (ed_var rfl) (ed_un ed_int ud_neg) (rd_ixUL (d := z.data) ?_)) (ed_var rfl) (rd_neU ((fit_T (Nat.le_refl _)).shaped (by omega)) shx))) ?_
      · rw [List.map_append]; exact atI_last
      · rw [T.data_eqv, List.getLast?_append]; simp
    · cases ys with
      | nil => simp
      | cons y ys => simp
    · have c' := of_decide_eq_true c
      rw [if_neg c', List.map_append]
      exact xd_app (ed_var rfl) (imm_T x) (by rw [List.length_map]; omega)
    · have c' := of_decide_eq_false c
      rw [if_pos (Classical.not_not.mp c')]
      exact xd_next
  · refine xd_ret (ed_cb (eds_cons (ed_var rfl) eds_nil) ?_)
    rw [List.length_map, List.take_length, T.once_sort]
    exact cd_tupL
end
/-! ### _law_by -/
abbrev sLawBy : Stmt := topS 23
abbrev nLawBy : List Str := ["_law_lefts", "_law_rights"]
theorem scLawBy : FnScope nLawBy ["_law_lefts", "_law_rights"] (defScope sLawBy) := ⟨rfl, rfl, rfl, by decide +kernel, rfl, by decide +kernel, by decide +kernel⟩
section
variable {P : Program} {w : World} {K : PySem.W.Frag} {mg : Str → Option Value} {base : Heap} {f : Addr} {fd : FuncData} {k j : Nat}
theorem has__law_by (B : BI mg) (F : Fun K "_law_by" "_law_by" sLawBy f fd) (b : Binds K fd ["_law_lefts", "_law_rights"] []) (hm : mg "_law_by" = some (.ref f)) (h__law_once : Has P w K mg base k "_law_once" (SpR K ROnce)) : Has P w K mg base (k + 1) "_law_by" (SpR K RBy) := by
  refine has_of F b hm scLawBy (by decide) (fun ds r h => by obtain ⟨_, _, rfl, _⟩ := h; rfl) (fun cdv A outer s H E hr => ⟨_, (pss_one (ps_ret (pe_tup (pa_cons (pe_h h__law_once hr (by omega) (by rfl) (pa_cons (pv 0) pa_nil)) (pa_cons (pe_h h__law_once hr (by omega) (by rfl) (pa_cons (pv 1) pa_nil)) pa_nil))))), fun ds r h => ?_⟩)
  try dsimp only [cxOf, Cx.nox, Cx.wish]
  obtain ⟨ls, rs, rfl, fl, fr, dl, dr, nl, nr, rfl⟩ := h
  rw [T.gm_data]
  exact xd_ret (ed_tup (eds_cons (ed_call (eds_cons (ed_var rfl) eds_nil) ⟨ls, rfl, fl, dl, nl, rfl⟩) (eds_cons (ed_call (eds_cons (ed_var rfl) eds_nil) ⟨rs, rfl, fr, dr, nr, rfl⟩) eds_nil)) (by simp))
end
/-! the games that a law draws -/
def many (n who : Int) : Nat := [0, 1, 1, 2].getD ((drawn n who) % 4).toNat 0
theorem many_le (n who : Int) : many n who ≤ 2 := by
  unfold many
  have h0 := Int.emod_nonneg (drawn n who) (show (4 : Int) ≠ 0 by decide)
  have h1 := Int.emod_lt_of_pos (drawn n who) (show (0 : Int) < 4 by decide)
  generalize (drawn n who) % 4 = z at h0 h1 ⊢
  have : z = 0 ∨ z = 1 ∨ z = 2 ∨ z = 3 := by omega
  rcases this with e | e | e | e <;> subst e <;> decide
theorem many_at (n who : Int) : atI [PyData.int 0, .int 1, .int 1, .int 2] (drawn n who % 4) = some (.int (many n who : Int)) := by
  unfold many
  have h0 := Int.emod_nonneg (drawn n who) (show (4 : Int) ≠ 0 by decide)
  have h1 := Int.emod_lt_of_pos (drawn n who) (show (0 : Int) < 4 by decide)
  generalize (drawn n who) % 4 = z at h0 h1 ⊢
  have : z = 0 ∨ z = 1 ∨ z = 2 ∨ z = 3 := by omega
  rcases this with e | e | e | e <;> subst e <;> rfl
def intD : D → Int
  | .int i => i
  | _ => 0
theorem mem_rng {d : D} {lo : Int} {n : Nat} (h : d ∈ rngD lo n) : ∃ i : Nat, i < n ∧ d = .int (lo + (i : Int)) := by
  unfold rngD at h
  obtain ⟨i, hi, rfl⟩ := List.mem_map.mp h
  exact ⟨i, List.mem_range.mp hi, rfl⟩
def rowOf (g : Int → T) (n who : Int) : List T := (List.range (many n who)).map fun (k : Nat) => g (drawn n (10 + 4 * who + (k : Int)))
def gmOf (g : Int → T) (n : Int) : T := T.gm (T.set (rowOf g n 0)) (T.set (rowOf g n 1))
def game : Nat → Int → T
  | 0, _ => T.gm [] []
  | 1, n => gmOf (game 0) n
  | d + 2, n => if n / 7 % 2 = 0 then gmOf (game (d + 1)) n else gmOf (game d) n
/-- a game that lasts at most n, each row of at most 2 moves -/
def T.G : Nat → T → Prop
  | 0, t => t = T.gm [] []
  | m + 1, t => ∃ ls rs, t = T.gm ls rs ∧ T.Asc ls ∧ T.Asc rs ∧ ls.length ≤ 2 ∧ rs.length ≤ 2 ∧ (∀ x ∈ ls, T.G m x) ∧ ∀ x ∈ rs, T.G m x
theorem T.G.up : ∀ {m : Nat} {t : T}, T.G m t → T.G (m + 1) t
  | 0, t, h => ⟨[], [], h, List.Pairwise.nil, List.Pairwise.nil, by simp, by simp, by simp, by simp⟩
  | m + 1, t, h => by
    obtain ⟨ls, rs, e, a, b, c, d, h1, h2⟩ := h
    exact ⟨ls, rs, e, a, b, c, d, fun x hx => T.G.up (h1 x hx), fun x hx => T.G.up (h2 x hx)⟩
theorem T.G.le {k m : Nat} {t : T} (h : T.G k t) (hm : k ≤ m) : T.G m t := by
  induction hm with
  | refl => exact h
  | step _ ih => exact ih.up
theorem gm_full (ls rs : List T) : full (T.gm ls rs) = true := rfl
theorem gm_depth (ls rs : List T) : (T.gm ls rs).depth = max (T.depths ls) (T.depths rs) + 2 := by
  unfold T.gm
  simp only [T.depth, T.depths]
  omega
theorem T.G.full : ∀ {m : Nat} {t : T}, T.G m t → LM.full t = true
  | 0, t, h => by rw [show t = T.gm [] [] from h]; rfl
  | m + 1, t, h => by obtain ⟨ls, rs, rfl, _⟩ := h; rfl
theorem T.G.depth : ∀ {m : Nat} {t : T}, T.G m t → t.depth ≤ 2 * m + 2
  | 0, t, h => by rw [show t = T.gm [] [] from h, gm_depth]; simp [T.depths]
  | m + 1, t, h => by
    obtain ⟨ls, rs, rfl, _, _, _, _, h1, h2⟩ := h
    have a := T.depths_le (k := 2 * m + 2) fun x hx => T.G.depth (h1 x hx)
    have b := T.depths_le (k := 2 * m + 2) fun x hx => T.G.depth (h2 x hx)
    rw [gm_depth]
    omega
theorem row_map (g : Int → T) (n who : Int) : (rngD 0 (many n who)).map (fun d => (g (drawn n (10 + 4 * who + intD d))).data) = (rowOf g n who).map T.data := by
  unfold rowOf rngD
  rw [List.map_map, List.map_map]
  refine List.map_congr_left fun i _ => ?_
  show (g (drawn n (10 + 4 * who + (0 + (i : Int))))).data = (g (drawn n (10 + 4 * who + (i : Int)))).data
  rw [Int.zero_add]
theorem row_G {g : Int → T} {m : Nat} (h : ∀ n, T.G m (g n)) (n who : Int) : (∀ x ∈ rowOf g n who, T.G m x) ∧ (rowOf g n who).length ≤ 2 := by
  unfold rowOf
  refine ⟨fun x hx => ?_, by rw [List.length_map, List.length_range]; exact many_le n who⟩
  obtain ⟨k, _, rfl⟩ := List.mem_map.mp hx
  exact h _
theorem gmOf_G {g : Int → T} {m : Nat} (h : ∀ n, T.G m (g n)) (n : Int) : T.G (m + 1) (gmOf g n) := by
  obtain ⟨a1, a2⟩ := row_G h n 0
  obtain ⟨b1, b2⟩ := row_G h n 1
  exact ⟨_, _, rfl, T.asc_set _, T.asc_set _, Nat.le_trans (T.set_len _) a2, Nat.le_trans (T.set_len _) b2, fun x hx => a1 x (T.mem_set.mp hx), fun x hx => b1 x (T.mem_set.mp hx)⟩
theorem game_G : ∀ (d : Nat) (n : Int), T.G d (game d n)
  | 0, n => (rfl : T.gm [] [] = T.gm [] [])
  | 1, n => gmOf_G (game_G 0) n
  | d + 2, n => by
    unfold game
    split
    · exact gmOf_G (game_G (d + 1)) n
    · exact (gmOf_G (game_G d) n).up
theorem game_left (d : Nat) (n : Int) (hn : 0 ≤ n) : ∃ d', d' ≤ d ∧ max 0 ((d + 1 : Nat) - 1 - n / 7 % 2 : Int) = (d' : Int) ∧ game (d + 1) n = gmOf (game d') n := by
  have h0 := Int.emod_nonneg (n / 7) (show (2 : Int) ≠ 0 by decide)
  have h1 := Int.emod_lt_of_pos (n / 7) (show (0 : Int) < 2 by decide)
  cases d with
  | zero => exact ⟨0, Nat.le_refl _, by omega, rfl⟩
  | succ d =>
    by_cases c : n / 7 % 2 = 0
    · exact ⟨d + 1, Nat.le_refl _, by omega, by show (if n / 7 % 2 = 0 then _ else _) = _; rw [if_pos c]⟩
    · exact ⟨d, Nat.le_succ _, by omega, by show (if n / 7 % 2 = 0 then _ else _) = _; rw [if_neg c]⟩
def RGame (dd : Nat) (ds : List D) (r : D) : Prop := ∃ (n : Int) (d : Nat), ds = [.int n, .int (d : Int)] ∧ 0 ≤ n ∧ d < dd ∧ r = (game d n).data
/-! ### _law_game -/
abbrev sLawGame : Stmt := topS 24
abbrev nLawGame : List Str := ["_law_number", "_law_deep", "_law_rows", "_law_who", "_law_many", "_law_left", "_law_k"]
theorem scLawGame : FnScope nLawGame ["_law_number", "_law_deep"] (defScope sLawGame) := ⟨rfl, rfl, rfl, by decide +kernel, rfl, by decide +kernel, by decide +kernel⟩
section
variable {P : Program} {w : World} {K : PySem.W.Frag} {mg : Str → Option Value} {base : Heap} {f : Addr} {fd : FuncData} {k j : Nat}
theorem has__law_game1 (B : BI mg) (F : Fun K "_law_game" "_law_game" sLawGame f fd) (b : Binds K fd ["_law_number", "_law_deep"] []) (hm : mg "_law_game" = some (.ref f)) {dd : Nat} (hdd : dd ≤ 20)
    (h__law_drawn : Has P w K mg base k "_law_drawn" (SpR K RDrawn)) (h__law_by : Has P w K mg base k "_law_by" (SpR K RBy)) (h__law_game : Has P w K mg base k "_law_game" (SpR K (RGame dd))) : Has P w K mg base (k + 1) "_law_game" (SpR K (RGame (dd + 1))) := by
  refine has_of F b hm scLawGame (by decide) (fun ds r h => by obtain ⟨_, _, rfl, _⟩ := h; rfl) (fun cdv A outer s H E hr => ⟨_, (pss_cons (ps_if (pt_cmpR (op_eqK K rfl (hu64 hr)) (pv 1) pe_int (nomark _)) (pss_one (ps_ret (pe_tup (pa_cons (pe_tup pa_nil) (pa_cons (pe_tup pa_nil) pa_nil))))) pss_nil)
    (pss_cons (ps_set (i := 2) scLawGame.nd rfl (by first | exact .inl rfl | exact .inr rfl) (pe_lst pa_nil))
    (pss_cons (ps_for PassesOwn.never rfl (pi_tupK K rfl (pe_tup (pa_cons pe_int (pa_cons pe_int pa_nil)))) (pg_name (i := 3) scLawGame.nd rfl (by first | exact .inl rfl | exact .inr rfl)) (pss_cons (ps_set (i := 4) scLawGame.nd rfl (by first | exact .inl rfl | exact .inr rfl) (pe_ix (ix_K K rfl) (pe_tup (pa_cons pe_int (pa_cons pe_int (pa_cons pe_int (pa_cons pe_int pa_nil))))) (pe_op op_mod (pe_h h__law_drawn hr (by omega) (by rfl) (pa_cons (pv 0) (pa_cons (pv 3) pa_nil))) pe_int) (fun _ _ => rfl)))
    (pss_cons (ps_set (i := 5) scLawGame.nd rfl (by first | exact .inl rfl | exact .inr rfl) (pe_callB (call_max2 rfl) (by rfl) B.max boot_max (pa_cons pe_int (pa_cons (pe_op op_sub (pe_op op_sub (pv 1) pe_int) (pe_op op_mod (pe_op op_fdiv (pv 0) pe_int) pe_int)) pa_nil))))
    (pss_one (ps_expr (pe_bmK K rfl (pe_bm PySem.F.plainAttrs_list PySem.F.slot_list_append PySem.F.type_list_append mt_append (pv 2) (pa_cons (pe_lc (own := [("_law_k", 6)]) rfl scLawGame.nd (pi_range1 (by rfl) B.range (pa_cons (pv 4) pa_nil)) (blkOk_by (N := nLawGame) (sc := defScope sLawGame) (by decide +kernel)) (fun _ _ _ _ _ => (pg_name (i := 6) scLawGame.nd rfl (by first | exact .inl rfl | exact .inr rfl))) (fun _ _ _ _ _ => pts_nil) (fun _ _ _ _ _ => (pe_h h__law_game hr (by omega) (by rfl) (pa_cons (pe_h h__law_drawn hr (by omega) (by rfl) (pa_cons (pv 0) (pa_cons (pe_op (op_addK K rfl) (pe_op (op_addK K rfl) pe_int (pe_op (op_mulK K rfl) pe_int (pv 3))) (pv 6)) pa_nil))) (pa_cons (pv 5) pa_nil))))) pa_nil))))))))
    (pss_one (ps_ret (pe_h h__law_by hr (by omega) (by rfl) (pa_cons (pe_ix (ix_K K rfl) (pv 2) pe_int (fun _ _ => rfl)) (pa_cons (pe_ix (ix_K K rfl) (pv 2) pe_int (fun _ _ => rfl)) pa_nil)))))))), fun ds r h => ?_⟩)
  try dsimp only [cxOf, Cx.nox, Cx.wish]
  obtain ⟨n, d, rfl, hn, hd, rfl⟩ := h
  refine (show XD K _ [some (.int n), some (.int (d : Int)), none, none, none, none, none] none _ from ?_)
  refine xd_ifs (b := decide ((d : Int) = 0)) (by (repeat' (first
    | exact ed_var rfl | exact ed_int | exact ed_bl | exact ed_str | exact ed_non
    | exact eds_nil | with_reducible refine' eds_cons ?_ ?_
    | exact rd_addI | exact rd_sub | exact rd_ltI | exact rd_geI | exact rd_gtI | exact rd_le | exact rd_lt | exact rd_eqI | exact rd_neI | exact rd_eqS | exact rd_neS
    | exact rd_mulI (.inr ⟨by decide, by decide⟩) | exact rd_mulI (.inl ⟨by decide, by decide⟩) | exact rd_mod (by decide) | exact rd_div ⟨by decide, by decide⟩
    | exact ud_neg
    | exact et_yes
    | with_reducible refine' ed_op ?_ ?_ ?_ | with_reducible refine' ed_un ?_ ?_ | with_reducible refine' ed_tup ?_ ?_ | with_reducible refine' et_test ?_ | with_reducible refine' et_B ?_ | with_reducible refine ed_notV ?_ | with_reducible refine et_not ?_
    | exact cd_max2 | exact cd_min2 | exact cd_abs | exact cd_lenL | exact cd_lenT | exact cd_tupL | exact cd_tupT
    | exact ed_isi (by assumption) rfl
    | with_reducible refine' ed_cb ?_ ?_ ))) (fun c => ?_) (fun c => ?_)
  · have e : d = 0 := by have := of_decide_eq_true c; omega
    subst e
    refine xd_rets ?_
    show ED K _ _ (T.gm [] []).data
    rw [T.gm_data]
    exact ed_tup (eds_cons (ed_tup eds_nil) (eds_cons (ed_tup eds_nil) eds_nil)) (by simp)
  · have hd0 : d ≠ 0 := by have := of_decide_eq_false c; omega
    obtain ⟨d, rfl⟩ : ∃ e, d = e + 1 := ⟨d - 1, by omega⟩
    obtain ⟨l, hl, el, eg⟩ := game_left d n hn
    rw [eg]
    have bd0 := row_G (game_G l) n 0
    have bd1 := row_G (game_G l) n 1
    have dp : ∀ who : Int, T.depths (rowOf (game l) n who) ≤ 60 := fun who => T.depths_le fun x hx => by
      have := ((row_G (game_G l) n who).1 x hx).depth
      omega
    refine xd_nexts (xd_seq (xd_asgOwn (el_lst eds_nil)) ?_)
    refine xd_seq (xd_forT (items := [.int 0, .int 1]) (fun _ => [some (.int n), some (.int ((d + 1 : Nat) : Int)), none, none, none, none, none]) (fun i => some (2, [PyData.list ((rowOf (game l) n 0).map T.data), PyData.list ((rowOf (game l) n 1).map T.data)].take i))
      (ed_tup (eds_cons ed_int (eds_cons ed_int eds_nil))) (.inr (by rfl)) rfl rfl (fun i q e => by cases e; show (2 : Nat) ≠ 3; decide) (Go.all fun i d' hi => ?_)) ?_
    · obtain ⟨who, rfl, hw, et⟩ : ∃ who : Int, d' = .int who ∧ (who = 0 ∨ who = 1) ∧ [PyData.list ((rowOf (game l) n 0).map T.data), PyData.list ((rowOf (game l) n 1).map T.data)].take (i + 1) = [PyData.list ((rowOf (game l) n 0).map T.data), PyData.list ((rowOf (game l) n 1).map T.data)].take i ++ [.list ((rowOf (game l) n who).map T.data)] := by
        rcases i with _ | _ | i
        · cases hi; exact ⟨0, rfl, .inl rfl, rfl⟩
        · cases hi; exact ⟨1, rfl, .inr rfl, rfl⟩
        · simp at hi
      rw [et]
      have hk : (([PyData.list ((rowOf (game l) n 0).map T.data), PyData.list ((rowOf (game l) n 1).map T.data)] : List D).take i).length ≤ 90000 := by rw [List.length_take]; exact Nat.le_trans (Nat.min_le_right _ _) (by show 2 ≤ 90000; decide)
      generalize ([PyData.list ((rowOf (game l) n 0).map T.data), PyData.list ((rowOf (game l) n 1).map T.data)] : List D).take i = done at hk ⊢
      refine xd_seq (xd_asg (d := .int (many n who : Int)) ?_ (.inr rfl) (fun q e => by cases e; show (2 : Nat) ≠ 4; decide)) (xd_seq (xd_asg (d := .int (l : Int)) ?_ (.inr rfl) (fun q e => by cases e; show (2 : Nat) ≠ 5; decide)) (xd_less (xd_appL (cs := (rowOf (game l) n who).map T.data) ?_ (by simp) hk) (by simp) ?_))
      · have w0 : 0 ≤ who := by rcases hw with h | h <;> omega
        have w1 : who ≤ 1000000 := by rcases hw with h | h <;> omega
        exact ed_op (ed_tup (eds_cons ed_int (eds_cons ed_int (eds_cons ed_int (eds_cons ed_int eds_nil)))) (by simp)) (ed_op (ed_call (eds_cons (ed_var rfl) (eds_cons (ed_var rfl) eds_nil)) ⟨n, who, rfl, w0, w1, rfl⟩) ed_int (rd_mod (by decide))) (rd_ixUT (many_at n who))
      · rw [← el]
        (repeat' (first
    | exact ed_var rfl | exact ed_int | exact ed_bl | exact ed_str | exact ed_non
    | exact eds_nil | with_reducible refine' eds_cons ?_ ?_
    | exact rd_addI | exact rd_sub | exact rd_ltI | exact rd_geI | exact rd_gtI | exact rd_le | exact rd_lt | exact rd_eqI | exact rd_neI | exact rd_eqS | exact rd_neS
    | exact rd_mulI (.inr ⟨by decide, by decide⟩) | exact rd_mulI (.inl ⟨by decide, by decide⟩) | exact rd_mod (by decide) | exact rd_div ⟨by decide, by decide⟩
    | exact ud_neg
    | exact et_yes
    | with_reducible refine' ed_op ?_ ?_ ?_ | with_reducible refine' ed_un ?_ ?_ | with_reducible refine' ed_tup ?_ ?_ | with_reducible refine' et_test ?_ | with_reducible refine' et_B ?_ | with_reducible refine ed_notV ?_ | with_reducible refine et_not ?_
    | exact cd_max2 | exact cd_min2 | exact cd_abs | exact cd_lenL | exact cd_lenT | exact cd_tupL | exact cd_tupT
    | exact ed_isi (by assumption) rfl
    | with_reducible refine' ed_cb ?_ ?_ ))
      · have ml := many_le n who
        have w0 : 0 ≤ who ∧ who ≤ 1 := by rcases hw with h | h <;> omega
        refine el_is (el_mapR1 (n := (many n who : Int)) (fun d => (game l (drawn n (10 + 4 * who + intD d))).data) (eds_cons (ed_var rfl) eds_nil) ⟨by omega, by omega⟩ fun d hd => ?_) (row_map (game l) n who)
        obtain ⟨i, hi, rfl⟩ := mem_rng hd
        refine ed_call (ds := [.int (drawn n (10 + 4 * who + (0 + (i : Int)))), .int (l : Int)]) (eds_cons (ed_call (ds := [.int n, .int (10 + 4 * who + (0 + (i : Int)))]) (eds_cons (ed_var rfl) (eds_cons ?_ eds_nil)) ⟨n, _, rfl, ?_, ?_, rfl⟩) (eds_cons (ed_var rfl) eds_nil)) ⟨_, l, rfl, (drawn_bd _ _).1, by omega, rfl⟩
        · (repeat' (first
    | exact ed_var rfl | exact ed_int | exact ed_bl | exact ed_str | exact ed_non
    | exact eds_nil | with_reducible refine' eds_cons ?_ ?_
    | exact rd_addI | exact rd_sub | exact rd_ltI | exact rd_geI | exact rd_gtI | exact rd_le | exact rd_lt | exact rd_eqI | exact rd_neI | exact rd_eqS | exact rd_neS
    | exact rd_mulI (.inr ⟨by decide, by decide⟩) | exact rd_mulI (.inl ⟨by decide, by decide⟩) | exact rd_mod (by decide) | exact rd_div ⟨by decide, by decide⟩
    | exact ud_neg
    | exact et_yes
    | with_reducible refine' ed_op ?_ ?_ ?_ | with_reducible refine' ed_un ?_ ?_ | with_reducible refine' ed_tup ?_ ?_ | with_reducible refine' et_test ?_ | with_reducible refine' et_B ?_ | with_reducible refine ed_notV ?_ | with_reducible refine et_not ?_
    | exact cd_max2 | exact cd_min2 | exact cd_abs | exact cd_lenL | exact cd_lenT | exact cd_tupL | exact cd_tupT
    | exact ed_isi (by assumption) rfl
    | with_reducible refine' ed_cb ?_ ?_ ))
        · omega
        · have : i < 2 := by simp at hi; omega
          omega
      · intro i d e
        exact set_less (by simp) i d (set_less (by simp) i d (set_less (by simp) i d e))
    · refine xd_ret (ed_call (eds_cons (ed_op (ed_var rfl) ed_int (rd_ixUL (d := .list ((rowOf (game l) n 0).map T.data)) rfl)) (eds_cons (ed_op (ed_var rfl) ed_int (rd_ixUL (d := .list ((rowOf (game l) n 1).map T.data)) rfl)) eds_nil)) ?_)
      exact ⟨_, _, rfl, fun t ht => (bd0.1 t ht).full, fun t ht => (bd1.1 t ht).full, dp 0, dp 1, by omega, by omega, rfl⟩
theorem has__law_game (B : BI mg) (F : Fun K "_law_game" "_law_game" sLawGame f fd) (b : Binds K fd ["_law_number", "_law_deep"] []) (hm : mg "_law_game" = some (.ref f))
    (h__law_drawn : Has P w K mg base k "_law_drawn" (SpR K RDrawn)) (h__law_by : Has P w K mg base k "_law_by" (SpR K RBy)) : ∀ dd : Nat, dd ≤ 20 → Has P w K mg base (k + dd) "_law_game" (SpR K (RGame dd))
  | 0, _ => has_none F b hm fun ds r h => by obtain ⟨_, d, _, _, h, _⟩ := h; omega
  | dd + 1, h => has__law_game1 B F b hm (by omega) (h__law_drawn.mono (Nat.le_add_right k dd)) (h__law_by.mono (Nat.le_add_right k dd)) (has__law_game B F b hm h__law_drawn h__law_by dd (by omega))
end
end LM

set_option Elab.async false
set_option linter.all false
set_option maxRecDepth 100000
set_option maxHeartbeats 4000000
namespace LM
open PySem PySem.Spec PyProof.Rows L2 Evl
/-! what a game is -/
def RRises (ds : List D) (r : D) : Prop := ∃ ts : List T, ds = [.tuple (ts.map T.data)] ∧ T.depths ts ≤ 60 ∧ ts.length ≤ 50000 ∧ r = .bool (ascB ts)
def ltD (x y : D) : D := .bool (T.lt (ofD x) (ofD y))
theorem zipm_zl : ∀ ts : List T, zipm ltD (((ts.map T.data)).take (ts.length - 1)) ((ts.map T.data).drop 1) = (zl ts).map PyData.bool
  | [] => rfl
  | [x] => rfl
  | x :: y :: r => by
    have ih := zipm_zl (y :: r)
    rw [List.map_cons, List.map_cons, zl, List.map_cons]
    show zipm ltD (x.data :: (y.data :: r.map T.data).take r.length) (y.data :: r.map T.data) = _
    rw [zipm]
    congr 1
    · unfold ltD; rw [ofD_data, ofD_data]
def RFits (F : Nat) (ds : List D) (r : D) : Prop := ∃ (d : D) (f : Nat), ds = [d, .int (13 - (f : Int))] ∧ f < F ∧ sz d ≤ 50000 ∧ r = .bool (okG f d)
def RIs (ds : List D) (r : D) : Prop := ∃ d : D, ds = [d] ∧ sz d ≤ 50000 ∧ r = .bool (okG 13 d)
def RLawIs (F : Nat) (ds : List D) (r : D) : Prop := ∃ (d : D) (f : Nat), ds = [d, .int (13 - (f : Int))] ∧ f < F ∧ sz d ≤ 50000 ∧ fitD 60 d ∧ r = .bool (okG f d)
/-- isinstance(x, tuple) -/
def isTup : D → Bool
  | .tuple _ => true
  | _ => false
theorem kb_tup (d : D) : kitB (tyD d) "tuple" = some (isTup d) := by
  rw [kb_tuple]
  cases d <;> rfl
theorem isTup_iff {d : D} (h : isTup d = true) : ∃ ds, d = .tuple ds := by
  cases d with
  | tuple ds => exact ⟨ds, rfl⟩
  | _ => cases h
theorem okG_shape {f : Nat} {d : D} (h : okG f d = true) : ∃ a b, d = .tuple [.tuple a, .tuple b] := by
  cases f with
  | zero => cases h
  | succ f =>
    unfold okG at h
    split at h
    · rename_i a b
      rw [Bool.and_eq_true] at h
      obtain ⟨ls, rfl, _⟩ := okRow_T (okG_T f) h.1
      obtain ⟨rs, rfl, _⟩ := okRow_T (okG_T f) h.2
      exact ⟨_, _, rfl⟩
    · cases h
theorem okG_len {f : Nat} {ds : List D} (h : ds.length ≠ 2) : okG (f + 1) (.tuple ds) = false := by
  unfold okG
  split
  · rename_i a b e
    cases e
    exact absurd rfl h
  · rfl
theorem okG_two (f : Nat) (a b : D) : okG (f + 1) (.tuple [a, b]) = (okRow (okG f) a && okRow (okG f) b) := rfl
theorem len_two {α : Type} {l : List α} (h : l.length = 2) : ∃ a b, l = [a, b] := by
  match l, h with
  | [a, b], _ => exact ⟨a, b, rfl⟩
def okRow' (n : Nat) : D → Bool
  | .tuple gs => gs.all (okG n)
  | _ => false
theorem okRow_le (n : Nat) (d : D) : okRow' n d = false → okRow (okG n) d = false := by
  cases d with
  | tuple gs => intro h; simp only [okRow, okRow'] at h ⊢; rw [h]; rfl
  | _ => intro _; rfl
theorem okRow'_T {n : Nat} {d : D} (h : okRow' n d = true) (hz : sz d ≤ 50000) : ∃ ts : List T, d = .tuple (ts.map T.data) ∧ T.depths ts ≤ 2 * n ∧ ts.length ≤ 50000 ∧ okRow (okG n) d = ascB ts := by
  cases d with
  | tuple gs =>
    simp only [okRow', List.all_eq_true] at h
    have e : gs = (gs.map ofD).map T.data := by
      rw [List.map_map]
      conv => lhs; rw [← List.map_id gs]
      exact List.map_congr_left fun d hx => (okG_T n d (h d hx)).1
    refine ⟨gs.map ofD, by rw [← e], ?_, ?_, ?_⟩
    · refine T.depths_le fun t ht => ?_
      obtain ⟨d, hx, rfl⟩ := List.mem_map.mp ht
      exact (okG_T n d (h d hx)).2
    · have := len_szs gs
      rw [sz] at hz
      rw [List.length_map]; omega
    · show (gs.all (okG n) && ascB (gs.map ofD)) = _
      rw [List.all_eq_true.mpr h, Bool.true_and]
  | _ => cases h
theorem dp_all {K : PySem.W.Frag} (gs : List D) (n : Nat) : CD K (rAll K) [.list (gs.map fun x => .bool (okG n x))] (.bool (okRow' n (.tuple gs))) := by
  have e : okRow' n (.tuple gs) = (gs.map (okG n)).all id := by
    rw [List.all_map]; rfl
  rw [e]
  exact cd_all (by rw [List.map_map]; rfl)
def lenNot2 : D → Bool
  | .tuple ds => !decide ((ds.length : Int) = 2)
  | _ => false
theorem deep_up (x : D) (n : Nat) : [x, PyData.int (13 - ((n + 1 : Nat) : Int) + 1)] = [x, .int (13 - (n : Int))] := by
  rw [show (13 - ((n + 1 : Nat) : Int) + 1) = 13 - (n : Int) by omega]
/-! ### rises -/
abbrev sRises : Stmt := topS 6
abbrev nRises : List Str := ["games", "one", "other"]
theorem scRises : FnScope nRises ["games"] (defScope sRises) := ⟨rfl, rfl, rfl, by decide +kernel, rfl, by decide +kernel, by decide +kernel⟩
section
variable {P : Program} {w : World} {K : PySem.W.Frag} {mg : Str → Option Value} {base : Heap} {f : Addr} {fd : FuncData} {k j : Nat}
theorem has_rises (B : BI mg) (F : Fun K "rises" "rises" sRises f fd) (b : Binds K fd ["games"] []) (hm : mg "rises" = some (.ref f)) : Has P w K mg base (k + 1) "rises" (SpR K RRises) := by
  refine has_of F b hm scRises (by decide) (fun ds r h => by obtain ⟨_, rfl, _⟩ := h; rfl) (fun cdv A outer s H E hr => ⟨_, (pss_one (ps_ret (pe_callB (cr_allK K rfl rfl) (by rfl) B.all boot_all (pa_cons (pe_lc (own := [("one", 1), ("other", 2)]) rfl scRises.nd (pi_zipK K rfl (by rfl) B.zip (pa_cons (pe_slice (sl_K K rfl) (pv 0) po_none (po_some (pe_un un_neg pe_int))) (pa_cons (pe_slice (sl_K K rfl) (pv 0) (po_some pe_int) po_none) pa_nil))) (blkOk_by (N := nRises) (sc := defScope sRises) (by decide +kernel)) (fun _ _ _ _ _ => (pg_tupK K rfl (pg_tup (n := 2) rfl (pgs_cons (pg_name (i := 1) scRises.nd rfl (by first | exact .inl rfl | exact .inr rfl)) (pgs_cons (pg_name (i := 2) scRises.nd rfl (by first | exact .inl rfl | exact .inr rfl)) pgs_nil))))) (fun _ _ _ _ _ => pts_nil) (fun _ _ _ _ _ => (pe_cmpR (op_ltK K rfl (hu64 hr)) (pv 1) (pv 2) (nomark _)))) pa_nil)))), fun ds r h => ?_⟩)
  try dsimp only [cxOf, Cx.nox, Cx.wish]
  obtain ⟨ts, rfl, hd, hn, rfl⟩ := h
  refine xd_ret (ed_cb (eds_cons (ed_el (el_lcZ ltD (eds_cons (ed_slUT (ed_var rfl) eo_none (eo_some (ed_un ed_int ud_neg))) (eds_cons (ed_slUT (ed_var rfl) (eo_some ed_int) eo_none) eds_nil)) ?_ ?_ (by decide) fun i x y hx hy => ?_)) eds_nil) (cd_all ?_))
  · rw [cut_front, cut_from1, List.length_take, List.length_drop]; omega
  · rw [cut_front, List.length_take, List.length_map]; omega
  · rw [cut_front] at hx
    rw [cut_from1] at hy
    obtain ⟨t, ht, rfl⟩ := List.mem_map.mp (List.mem_of_mem_take (List.mem_of_getElem? hx))
    obtain ⟨u, hu, rfl⟩ := List.mem_map.mp (List.mem_of_mem_drop (List.mem_of_getElem? hy))
    have := Nat.le_trans (T.depth_mem ht) hd
    unfold ltD
    rw [ofD_data, ofD_data]
    exact ed_op (ed_var rfl) (ed_var rfl) (rd_ltT (by omega))
  · rw [cut_front, cut_from1, List.length_map, zipm_zl]
end
/-! ### fits_game -/
abbrev sFitsGame : Stmt := topS 7
abbrev nFitsGame : List Str := ["thing", "deep", "games", "game"]
theorem scFitsGame : FnScope nFitsGame ["thing", "deep"] (defScope sFitsGame) := ⟨rfl, rfl, rfl, by decide +kernel, rfl, by decide +kernel, by decide +kernel⟩
section
variable {P : Program} {w : World} {K : PySem.W.Frag} {mg : Str → Option Value} {base : Heap} {f : Addr} {fd : FuncData} {k j : Nat}
theorem has_fits_game1 (B : BI mg) (c_LONGEST : ∃ tk, mg "LONGEST" = some (.int 12 tk)) (F : Fun K "fits_game" "fits_game" sFitsGame f fd) (b : Binds K fd ["thing", "deep"] []) (hm : mg "fits_game" = some (.ref f)) {N : Nat} (hN : N ≤ 13)
    (h_rises : Has P w K mg base k "rises" (SpR K RRises)) (h_fits_game : Has P w K mg base k "fits_game" (SpR K (RFits N))) : Has P w K mg base (k + 1) "fits_game" (SpR K (RFits (N + 1))) := by
  refine has_of F b hm scFitsGame (by decide) (fun ds r h => by obtain ⟨_, _, rfl, _⟩ := h; rfl) (fun cdv A outer s H E hr => ⟨_, (pss_cons (ps_if (pw_or (pt_cmpR op_gt (pv 1) (pe_const c_LONGEST (by rfl)) (nomark _)) (pw_or (pt_not (pt_val (pe_callB (call_isiK' K rfl) (by rfl) B.isinstance boot_isinstance (pa_cons (pv 0) (pa_cons (pe_bltn (v := .ty "tuple") (by rfl) B.tuple boot_tuple rfl) pa_nil))))) (pw_or1 (pt_cmpR (op_neK K rfl (hu64 hr)) (pe_callB (call_lenK K rfl) (by rfl) B.len boot_len (pa_cons (pv 0) pa_nil)) pe_int (nomark _))))).pt (pss_one (ps_ret pe_bl)) pss_nil)
    (pss_cons (ps_for PassesOwn.never rfl (pi_tupK K rfl (pv 0)) (pg_name (i := 2) scFitsGame.nd rfl (by first | exact .inl rfl | exact .inr rfl)) (pss_one (ps_if (pw_or (pt_not (pt_val (pe_callB (call_isiK' K rfl) (by rfl) B.isinstance boot_isinstance (pa_cons (pv 2) (pa_cons (pe_bltn (v := .ty "tuple") (by rfl) B.tuple boot_tuple rfl) pa_nil))))) (pw_or1 (pt_not (pt_val (pe_callB (cr_allK K rfl rfl) (by rfl) B.all boot_all (pa_cons (pe_lc (own := [("game", 3)]) rfl scFitsGame.nd (pi_tupK K rfl (pv 2)) (blkOk_by (N := nFitsGame) (sc := defScope sFitsGame) (by decide +kernel)) (fun _ _ _ _ _ => (pg_name (i := 3) scFitsGame.nd rfl (by first | exact .inl rfl | exact .inr rfl))) (fun _ _ _ _ _ => pts_nil) (fun _ _ _ _ _ => (pe_h h_fits_game hr (by omega) (by rfl) (pa_cons (pv 3) (pa_cons (pe_op (op_addK K rfl) (pv 1) pe_int) pa_nil))))) pa_nil)))))).pt (pss_one (ps_ret pe_bl)) pss_nil)))
    (pss_one (ps_ret (pe_and (pe_h h_rises hr (by omega) (by rfl) (pa_cons (pe_ix (ix_K K rfl) (pv 0) pe_int (fun _ _ => rfl)) pa_nil)) (pe_one (pe_h h_rises hr (by omega) (by rfl) (pa_cons (pe_ix (ix_K K rfl) (pv 0) pe_int (fun _ _ => rfl)) pa_nil)))))))), fun ds r h => ?_⟩)
  try dsimp only [cxOf, Cx.nox, Cx.wish]
  obtain ⟨d, n, rfl, hn, hz, rfl⟩ := h
  refine (show XD K _ [some d, some (.int (13 - (n : Int))), none, none] none _ from ?_)
  have isi : ∀ {ρ : Rho} {te : TE} {x : D}, ED K te ρ x → ED K (tCB (rIsi K) (tCons te (tCons (tC (.ty "tuple")) tNil))) ρ (.bool (isTup x)) := fun h => ed_isi h (kb_tup _)
  have len2 : isTup d = true → ∃ ds, d = .tuple ds ∧ ET K (tTest (tOp (rNeU K) (tCB (rLen K) (tCons (tVar 0) tNil)) (tC (.int 2)))) [some d, some (.int (13 - (n : Int))), none, none] (!decide ((ds.length : Int) = 2)) := fun h => by
    obtain ⟨ds, rfl⟩ := isTup_iff h
    exact ⟨ds, rfl, et_test (ed_op (ed_cb (eds_cons (ed_var rfl) eds_nil) cd_lenT) ed_int rd_neI)⟩
  -- what is refused at once
  by_cases bad : n = 0 ∨ isTup d = false ∨ ∃ ds, d = .tuple ds ∧ ds.length ≠ 2
  · have e : okG n d = false := by
      rcases bad with e | e | ⟨ds, rfl, e⟩
      · subst e; rfl
      · cases h : okG n d with
        | false => rfl
        | true => obtain ⟨_, _, rfl⟩ := okG_shape h; cases e
      · cases n with
        | zero => rfl
        | succ n => exact okG_len e
    rw [e]
    refine xd_ifs (b := true) (et_is' (et_or (x := decide ((12 : Int) < 13 - (n : Int))) (y := !isTup d || lenNot2 d) ?_ fun _ => et_or (x := !isTup d) ?_ fun ht => ?_) ?_) (fun _ => xd_rets ed_bl) (fun z => by cases z)
    · exact et_test (ed_op (ed_var rfl) ed_int rd_gtI)
    · exact et_not (et_B (isi (ed_var rfl)))
    · obtain ⟨ds, rfl, h⟩ := len2 (by simpa using ht)
      exact h
    · rcases bad with e | e | ⟨ds, rfl, e⟩
      · subst e; rfl
      · rw [e]; simp
      · simp only [isTup, lenNot2, Bool.not_true, Bool.false_or]
        have : ¬ ((ds.length : Int) = 2) := by omega
        simp [this]
  · have hn0 : n ≠ 0 := fun e => bad (.inl e)
    have ht : isTup d = true := by
      cases h : isTup d with
      | true => rfl
      | false => exact absurd (.inr (.inl h)) bad
    obtain ⟨ds, rfl⟩ := isTup_iff ht
    have hl : ds.length = 2 := Classical.byContradiction fun h => bad (.inr (.inr ⟨ds, rfl, h⟩))
    obtain ⟨x, y, rfl⟩ := len_two hl
    obtain ⟨n, rfl⟩ : ∃ m, n = m + 1 := ⟨n - 1, by omega⟩
    rw [okG_two]
    have zx : sz x ≤ 50000 ∧ sz y ≤ 50000 := by simp only [sz, szs] at hz; omega
    refine xd_ifs (b := false) (et_is' (et_or (x := decide ((12 : Int) < 13 - ((n + 1 : Nat) : Int))) (y := false) ?_ fun _ => et_is' (et_or (x := !isTup (.tuple [x, y])) ?_ fun ht => et_test (ed_op (ed_cb (eds_cons (ed_var rfl) eds_nil) cd_lenT) ed_int rd_neI)) ?_) ?_) (fun z => by cases z) (fun _ => xd_nexts ?_)
    · exact et_test (ed_op (ed_var rfl) ed_int rd_gtI)
    · exact et_not (et_B (isi (ed_var rfl)))
    · rfl
    · rw [Bool.or_false]; exact decide_eq_false (by omega)
    refine xd_checkT (okRow' n) (.bool false) (ed_var rfl) (turn := fun g hg => ?_) (rest := fun h => ?_) (fin := fun h => ?_)
    · have zg : sz g ≤ 50000 := by
        rcases List.mem_cons.mp hg with e | hg
        · rw [e]; exact zx.1
        · rw [List.mem_singleton.mp hg]; exact zx.2
      refine xd_guard (et_is' (et_or (x := !isTup g) (y := !okRow' n g) (et_not (et_B (isi (ed_var rfl)))) fun ht => ?_) ?_) ed_bl
      · obtain ⟨gs, rfl⟩ := isTup_iff (by simpa using ht)
        have lg : gs.length ≤ 50000 := by
          have := len_szs gs
          rw [sz] at zg; omega
        refine et_not (et_B (ed_cb (eds_cons (ed_el (el_mapT (fun x => .bool (okG n x)) (ed_var rfl) fun x hx => ?_)) eds_nil) (dp_all gs n)))
        refine ed_call (eds_cons (ed_var rfl) (eds_cons (ed_op (ed_var rfl) ed_int rd_addI) eds_nil)) ⟨x, n, deep_up x n, by omega, ?_, rfl⟩
        · have := sz_mem hx
          rw [sz] at zg; omega
      · cases h : isTup g with
        | true => rfl
        | false => cases g <;> first | rfl | cases h
    · simp only [List.all_cons, List.all_nil, Bool.and_true, Bool.and_eq_true] at h
      obtain ⟨us, rfl, du, lu, eu⟩ := okRow'_T h.1 zx.1
      obtain ⟨vs, rfl, dv, lv, ev⟩ := okRow'_T h.2 zx.2
      rw [eu, ev]
      exact xd_ret (ed_andV (ed_call (eds_cons (ed_op (ed_var rfl) ed_int (rd_ixUT rfl)) eds_nil) ⟨us, rfl, by omega, lu, rfl⟩) fun _ => ed_call (eds_cons (ed_op (ed_var rfl) ed_int (rd_ixUT rfl)) eds_nil) ⟨vs, rfl, by omega, lv, rfl⟩)
    · simp only [List.all_cons, List.all_nil, Bool.and_true] at h
      have := okRow_le n x
      have := okRow_le n y
      cases h1 : okRow' n x <;> cases h2 : okRow' n y <;> simp_all
theorem has_fits_game (B : BI mg) (c_LONGEST : ∃ tk, mg "LONGEST" = some (.int 12 tk)) (F : Fun K "fits_game" "fits_game" sFitsGame f fd) (b : Binds K fd ["thing", "deep"] []) (hm : mg "fits_game" = some (.ref f))
    (h_rises : Has P w K mg base k "rises" (SpR K RRises)) : ∀ N : Nat, N ≤ 14 → Has P w K mg base (k + N) "fits_game" (SpR K (RFits N))
  | 0, _ => has_none F b hm fun ds r h => by obtain ⟨_, d, _, h, _⟩ := h; omega
  | N + 1, h => has_fits_game1 B c_LONGEST F b hm (by omega) (h_rises.mono (Nat.le_add_right k N)) (has_fits_game B c_LONGEST F b hm h_rises N (by omega))
end
end LM

set_option Elab.async false
set_option linter.all false
set_option maxRecDepth 100000
set_option maxHeartbeats 4000000
namespace LM
open PySem PySem.Spec PyProof.Rows L2 Evl
/-! ### is_game -/
abbrev sIsGame : Stmt := topS 8
abbrev nIsGame : List Str := ["thing"]
theorem scIsGame : FnScope nIsGame ["thing"] (defScope sIsGame) := ⟨rfl, rfl, rfl, by decide +kernel, rfl, by decide +kernel, by decide +kernel⟩
section
variable {P : Program} {w : World} {K : PySem.W.Frag} {mg : Str → Option Value} {base : Heap} {f : Addr} {fd : FuncData} {k j : Nat}
theorem has_is_game (B : BI mg) (F : Fun K "is_game" "is_game" sIsGame f fd) (b : Binds K fd ["thing"] []) (hm : mg "is_game" = some (.ref f)) (h_fits_game : Has P w K mg base k "fits_game" (SpR K (RFits 14))) : Has P w K mg base (k + 1) "is_game" (SpR K RIs) := by
  refine has_of F b hm scIsGame (by decide) (fun ds r h => by obtain ⟨_, rfl, _⟩ := h; rfl) (fun cdv A outer s H E hr => ⟨_, (pss_one (ps_ret (pe_h h_fits_game hr (by omega) (by rfl) (pa_cons (pv 0) (pa_cons pe_int pa_nil))))), fun ds r h => ?_⟩)
  try dsimp only [cxOf, Cx.nox, Cx.wish]
  obtain ⟨d, rfl, hz, rfl⟩ := h
  exact xd_ret (ed_call (eds_cons (ed_var rfl) (eds_cons ed_int eds_nil)) ⟨d, 13, rfl, by decide, hz, rfl⟩)
end
theorem zl_get : ∀ (ts : List T) (i : Nat), (zl ts)[i]? = if i + 1 < ts.length then some (T.lt (ts.getD i (.n [])) (ts.getD (i + 1) (.n []))) else none
  | [], i => by simp [zl]
  | [x], i => by simp [zl]
  | x :: y :: r, 0 => by simp [zl]
  | x :: y :: r, i + 1 => by
    have h := zl_get (y :: r) i
    rw [zl, List.getElem?_cons_succ, h]
    simp
theorem zl_len (ts : List T) : (zl ts).length = ts.length - 1 := by
  have h : ∀ ts : List T, (zl ts).length = ts.length - 1 := fun ts => by
    induction ts with
    | nil => rfl
    | cons x r ih =>
      cases r with
      | nil => rfl
      | cons y r => rw [zl, List.length_cons, ih]; rfl
  exact h ts
/-- the places at which a row does not rise -/
def fallP (ts : List T) (d : D) : Bool := !T.lt (ts.getD (intD d - 1).toNat (.n [])) (ts.getD (intD d).toNat (.n []))
theorem fall_none (ts : List T) (f : D → D) : (((rngD 1 (((ts.length : Nat) : Int) - 1).toNat).filter (fallP ts)).map f).isEmpty = ascB ts := by
  have e : (((ts.length : Nat) : Int) - 1).toNat = ts.length - 1 := by omega
  rw [e, List.isEmpty_map]
  have h1 : ((rngD 1 (ts.length - 1)).filter (fallP ts)).isEmpty = (rngD 1 (ts.length - 1)).all (fun d => !fallP ts d) := by
    rw [Bool.eq_iff_iff, List.isEmpty_iff, List.filter_eq_nil_iff, List.all_eq_true]
    simp
  rw [h1]
  unfold ascB
  rw [Bool.eq_iff_iff, List.all_eq_true, List.all_eq_true]
  constructor
  · intro h b hb
    obtain ⟨i, hi⟩ := List.mem_iff_getElem?.mp hb
    rw [zl_get] at hi
    split at hi
    · rename_i hlt
      cases hi
      have := h _ (List.mem_of_getElem? (rngD_get (lo := 1) (n := ts.length - 1) (i := i) (by omega)))
      unfold fallP at this
      have e1 : (intD (.int (1 + (i : Int))) - 1).toNat = i := by show (1 + (i : Int) - 1).toNat = i; omega
      have e2 : (intD (.int (1 + (i : Int)))).toNat = i + 1 := by show (1 + (i : Int)).toNat = i + 1; omega
      rw [e1, e2, Bool.not_not] at this
      exact this
    · cases hi
  · intro h d hd
    obtain ⟨i, hi, rfl⟩ := mem_rng hd
    unfold fallP
    have e1 : (intD (.int (1 + (i : Int))) - 1).toNat = i := by show (1 + (i : Int) - 1).toNat = i; omega
    have e2 : (intD (.int (1 + (i : Int)))).toNat = i + 1 := by show (1 + (i : Int)).toNat = i + 1; omega
    rw [e1, e2, Bool.not_not]
    have := zl_get ts i
    rw [if_pos (by omega)] at this
    exact h _ (List.mem_of_getElem? this)
def ascT : D → Bool
  | .tuple gs => ascB (gs.map ofD)
  | _ => false
theorem okRow_split (n : Nat) (d : D) : okRow (okG n) d = (isTup d && (okRow' n d && ascT d)) := by
  cases d with
  | tuple gs => rfl
  | _ => rfl
theorem filt_none (n : Nat) (gs : List D) (f : D → D) : ((gs.filter fun x => !okG n x).map f).isEmpty = okRow' n (.tuple gs) := by
  rw [List.isEmpty_map, Bool.eq_iff_iff, List.isEmpty_iff, List.filter_eq_nil_iff]
  show _ ↔ gs.all (okG n) = true
  rw [List.all_eq_true]
  simp
theorem getD_at {ts : List T} {i : Nat} (h : i < ts.length) : (ts.map T.data)[i]? = some (ts.getD i (.n [])).data := by
  rw [List.getElem?_map, List.getD_eq_getElem?_getD, List.getElem?_eq_getElem h]; rfl
end LM

set_option Elab.async false
set_option linter.all false
set_option maxRecDepth 100000
set_option maxHeartbeats 4000000
namespace LM
open PySem PySem.Spec PyProof.Rows L2 Evl
/-! things that are no games -/
def odds : List D := [.int 0, .int 1, .none, .str "", .str "[", .bool true, .tuple [], .list [], .tuple [.tuple []], .tuple [.tuple [], .tuple []], .tuple [.tuple [], .tuple [], .tuple []], .tuple [.tuple [.tuple [], .tuple []], .tuple []], .tuple [.tuple [], .list []]]
def odd (n : Int) : D := odds.getD (n % 13).toNat .none
theorem odd_at (n : Int) : atI odds (n % 13) = some (odd n) := by
  have h0 := Int.emod_nonneg n (show (13 : Int) ≠ 0 by decide)
  have h1 := Int.emod_lt_of_pos n (show (0 : Int) < 13 by decide)
  refine atI_z h0 ?_
  unfold odd
  have : (n % 13).toNat < odds.length := by show _ < 13; omega
  rw [List.getD_eq_getElem?_getD, List.getElem?_eq_getElem this]; rfl
theorem odd_mem (n : Int) : odd n ∈ odds := by
  have h0 := Int.emod_nonneg n (show (13 : Int) ≠ 0 by decide)
  have h1 := Int.emod_lt_of_pos n (show (0 : Int) < 13 by decide)
  unfold odd
  have : (n % 13).toNat < odds.length := by show _ < 13; omega
  rw [List.getD_eq_getElem?_getD, List.getElem?_eq_getElem this]
  exact List.getElem_mem this
theorem odds_ok : (odds.all fun d => decide (sz d ≤ 8) && d.canLay0 && decide (d.depth ≤ 4)) = true := by decide +kernel
theorem odd_sz (n : Int) : sz (odd n) ≤ 8 := by
  have := List.all_eq_true.mp odds_ok _ (odd_mem n)
  simp only [Bool.and_eq_true, decide_eq_true_eq] at this
  exact this.1.1
theorem odd_fit (n : Int) : fitD 4 (odd n) := by
  have := List.all_eq_true.mp odds_ok _ (odd_mem n)
  simp only [Bool.and_eq_true, decide_eq_true_eq] at this
  exact ⟨this.1.2, this.2⟩
def oneD : D := .tuple [.tuple [], .tuple []]
def variants (ds : List D) : List D := [.list ds, .tuple (ds.take (ds.length - 1)), .tuple (ds ++ ds.drop (ds.length - 1)), .tuple (ds.drop 1), .tuple ds.reverse, .tuple (List.replicate 2 ds).flatten, .tuple (ds ++ [oneD])]
def spoilT (n : Int) : D → D
  | .tuple ds => if n / 6 % 2 = 0 then (variants ds).getD (n / 12 % 7).toNat .none else odd (n / 6)
  | _ => odd (n / 6)
def spoilt : Nat → Int → D → D
  | 0, n, d => spoilT n d
  | k + 1, n, d => match d with
    | .tuple ds => if ds ≠ [] ∧ 0 < n % 6 then .tuple (ds.take (n / 6 % (ds.length : Int)).toNat ++ [spoilt k (n / 6 / (ds.length : Int)) (ds.getD (n / 6 % (ds.length : Int)).toNat .none)] ++ ds.drop ((n / 6 % (ds.length : Int)).toNat + 1)) else spoilT n d
    | d => spoilT n d
theorem szs_rev : ∀ ds : List D, szs ds.reverse = szs ds
  | [] => rfl
  | d :: ds => by rw [List.reverse_cons, szs_app, szs_rev ds, szs, szs, szs]; omega
theorem variants_ok {ds : List D} {x : D} (h : x ∈ variants ds) : sz x ≤ 2 * sz (.tuple ds) + 20 ∧ ∀ m, fitD m (.tuple ds) → fitD (m + 5) x := by
  have a1 := szs_take ds (ds.length - 1)
  have a2 := szs_drop ds (ds.length - 1)
  have a3 := szs_drop ds 1
  have a4 := szs_rev ds
  have one : sz oneD = 3 := rfl
  have one2 : ∀ m, fitD (m + 2) oneD := fun m => ⟨rfl, by show 2 ≤ m + 2; omega⟩
  have el : ∀ m, fitD m (.tuple ds) → ∀ d ∈ ds, fitD m d := fun m hm d hd => by
    cases m with
    | zero => obtain ⟨_, h2⟩ := hm; simp [PyData.depth] at h2
    | succ m => exact (fit_tup.mp hm d hd).mono (Nat.le_succ m)
  have pack : ∀ es : List D, (∀ m, (∀ d ∈ ds, fitD m d) → ∀ d ∈ es, fitD (m + 4) d) → ∀ m, fitD m (.tuple ds) → fitD (m + 5) (.tuple es) := fun es h m hm => fit_tup.mpr (h m (el m hm))
  simp only [variants, List.mem_cons, List.not_mem_nil, or_false] at h
  rcases h with rfl | rfl | rfl | rfl | rfl | rfl | rfl
  · exact ⟨by simp only [sz]; omega, fun m hm => fit_lst.mpr fun d hd => (el m hm d hd).mono (by omega)⟩
  · exact ⟨by simp only [sz]; omega, pack _ fun m hm d hd => (hm d (List.mem_of_mem_take hd)).mono (by omega)⟩
  · refine ⟨by simp only [sz, szs_app]; omega, pack _ fun m hm d hd => ?_⟩
    rcases List.mem_append.mp hd with hd | hd
    · exact (hm d hd).mono (by omega)
    · exact (hm d (List.mem_of_mem_drop hd)).mono (by omega)
  · exact ⟨by simp only [sz]; omega, pack _ fun m hm d hd => (hm d (List.mem_of_mem_drop hd)).mono (by omega)⟩
  · exact ⟨by simp only [sz]; omega, pack _ fun m hm d hd => (hm d (List.mem_reverse.mp hd)).mono (by omega)⟩
  · have e : (List.replicate 2 ds).flatten = ds ++ ds := by simp
    rw [e]
    refine ⟨by simp only [sz, szs_app]; omega, pack _ fun m hm d hd => ?_⟩
    rcases List.mem_append.mp hd with hd | hd
    · exact (hm d hd).mono (by omega)
    · exact (hm d hd).mono (by omega)
  · refine ⟨by simp only [sz, szs_app, szs, one]; omega, pack _ fun m hm d hd => ?_⟩
    rcases List.mem_append.mp hd with hd | hd
    · exact (hm d hd).mono (by omega)
    · rw [List.mem_singleton.mp hd]; exact (one2 m).mono (by omega)
theorem mod7 (n : Int) : 0 ≤ n % 7 ∧ n % 7 < 7 := ⟨Int.emod_nonneg _ (by decide), Int.emod_lt_of_pos _ (by decide)⟩
theorem variants_at (ds : List D) (n : Int) : atI (variants ds) (n / 12 % 7) = some ((variants ds).getD (n / 12 % 7).toNat .none) := by
  have h := mod7 (n / 12)
  refine atI_z h.1 ?_
  have : (n / 12 % 7).toNat < (variants ds).length := by show _ < 7; omega
  rw [List.getD_eq_getElem?_getD, List.getElem?_eq_getElem this]; rfl
theorem variants_mem (ds : List D) (n : Int) : (variants ds).getD (n / 12 % 7).toNat .none ∈ variants ds := by
  have h := mod7 (n / 12)
  have : (n / 12 % 7).toNat < (variants ds).length := by show _ < 7; omega
  rw [List.getD_eq_getElem?_getD, List.getElem?_eq_getElem this]
  exact List.getElem_mem this
theorem spoilT_ok (n : Int) (d : D) : sz (spoilT n d) ≤ 2 * sz d + 20 ∧ ∀ m, fitD m d → fitD (m + 5) (spoilT n d) := by
  have o1 := odd_sz (n / 6)
  have o2 := odd_fit (n / 6)
  cases d with
  | tuple ds =>
    by_cases h6 : n / 6 % 2 = 0
    · rw [show spoilT n (.tuple ds) = (variants ds).getD (n / 12 % 7).toNat .none from if_pos h6]
      exact variants_ok (variants_mem ds n)
    · rw [show spoilT n (.tuple ds) = odd (n / 6) from if_neg h6]
      exact ⟨by omega, fun m _ => o2.mono (by omega)⟩
  | _ => exact ⟨by show sz (odd (n / 6)) ≤ _; omega, fun m _ => o2.mono (by omega)⟩
theorem mod_len {ds : List D} (h : ds ≠ []) (n : Int) : 0 ≤ n / 6 % (ds.length : Int) ∧ (n / 6 % (ds.length : Int)).toNat < ds.length := by
  have hl : 0 < ds.length := List.length_pos_iff.mpr h
  have h0 := Int.emod_nonneg (n / 6) (show (ds.length : Int) ≠ 0 by omega)
  have h1 := Int.emod_lt_of_pos (n / 6) (show (0 : Int) < (ds.length : Int) by omega)
  exact ⟨h0, by omega⟩
theorem getD_mem {ds : List D} {i : Nat} (h : i < ds.length) : ds.getD i .none ∈ ds := by
  rw [List.getD_eq_getElem?_getD, List.getElem?_eq_getElem h]; exact List.getElem_mem h
theorem getD_get {ds : List D} {i : Nat} (h : i < ds.length) : ds[i]? = some (ds.getD i .none) := by
  rw [List.getD_eq_getElem?_getD, List.getElem?_eq_getElem h]; rfl
theorem szs_at {ds : List D} {i : Nat} (h : i < ds.length) : szs ds = szs (ds.take i) + sz (ds.getD i .none) + szs (ds.drop (i + 1)) := by
  have e : ds = ds.take i ++ (ds.getD i .none :: ds.drop (i + 1)) := by
    have e2 : ds.getD i .none = ds[i] := by rw [List.getD_eq_getElem?_getD, List.getElem?_eq_getElem h]; rfl
    rw [e2, ← List.drop_eq_getElem_cons h, List.take_append_drop]
  conv => lhs; rw [e]
  rw [szs_app, szs]; omega
theorem spoilt_ok : ∀ (k : Nat) (n : Int) (d : D), sz (spoilt k n d) ≤ 2 * sz d + 20 ∧ ∀ m, fitD m d → fitD (m + 5) (spoilt k n d)
  | 0, n, d => spoilT_ok n d
  | k + 1, n, d => by
    unfold spoilt
    split
    · rename_i ds
      split
      · rename_i c
        obtain ⟨h0, hl⟩ := mod_len c.1 n
        generalize (n / 6 % (ds.length : Int)).toNat = i at hl ⊢
        obtain ⟨i1, i2⟩ := spoilt_ok k (n / 6 / (ds.length : Int)) (ds.getD i .none)
        have e := szs_at hl
        refine ⟨?_, fun m hm => ?_⟩
        · simp only [sz, szs_app, szs]; omega
        · cases m with
          | zero => obtain ⟨_, h2⟩ := hm; simp [PyData.depth] at h2
          | succ m =>
            have el := fit_tup.mp hm
            refine fit_tup.mpr fun d hd => ?_
            rcases List.mem_append.mp hd with hd | hd
            · rcases List.mem_append.mp hd with hd | hd
              · exact (el d (List.mem_of_mem_take hd)).mono (by omega)
              · rw [List.mem_singleton.mp hd]; exact i2 m (el _ (getD_mem hl))
            · exact (el d (List.mem_of_mem_drop hd)).mono (by omega)
      · exact spoilT_ok n _
    · exact spoilT_ok n d
def ROdd (ds : List D) (r : D) : Prop := ∃ n : Int, ds = [.int n] ∧ r = odd n
def RSpoilt (F : Nat) (ds : List D) (r : D) : Prop := ∃ (d : D) (n : Int) (k : Nat), ds = [d, .int n, .int (k : Int)] ∧ k < F ∧ sz d ≤ 900 ∧ r = spoilt k n d
end LM

set_option Elab.async false
set_option linter.all false
set_option maxRecDepth 100000
set_option maxHeartbeats 4000000
namespace LM
open PySem PySem.Spec PyProof.Rows L2 Evl
/-! how long a game lasts -/
def mx (l : List Int) : Int := l.foldr max 0
theorem mx_mem : ∀ l : List Int, mx l ∈ (0 : Int) :: l
  | [] => List.mem_cons_self
  | x :: l => by
    show max x (mx l) ∈ _
    rcases Int.le_total x (mx l) with h | h
    · rw [Int.max_eq_right h]
      rcases List.mem_cons.mp (mx_mem l) with e | e
      · rw [e]; exact List.mem_cons_self
      · exact List.mem_cons_of_mem _ (List.mem_cons_of_mem _ e)
    · rw [Int.max_eq_left h]; exact List.mem_cons_of_mem _ List.mem_cons_self
theorem mx_le : ∀ (l : List Int), 0 ≤ mx l ∧ ∀ y ∈ l, y ≤ mx l
  | [] => ⟨Int.le_refl _, by simp⟩
  | x :: l => by
    obtain ⟨h1, h2⟩ := mx_le l
    have e : mx (x :: l) = max x (mx l) := rfl
    rw [e]
    refine ⟨by omega, fun y hy => ?_⟩
    rcases List.mem_cons.mp hy with z | z
    · rw [z]; omega
    · have := h2 y z; omega
def lastF : Nat → D → Int
  | 0, _ => 0
  | f + 1, d => match d with
    | .tuple [.tuple a, .tuple b] => mx ((a ++ b).map fun x => 1 + lastF f x)
    | _ => 0
def RLast (F : Nat) (ds : List D) (r : D) : Prop := ∃ (d : D) (f : Nat), ds = [d] ∧ f < F ∧ okG f d = true ∧ sz d ≤ 50000 ∧ r = .int (lastF f d)
theorem okG_row {n : Nat} {a b : List D} (h : okG (n + 1) (.tuple [.tuple a, .tuple b]) = true) : (∀ x ∈ a, okG n x = true) ∧ ∀ x ∈ b, okG n x = true := by
  rw [okG_two] at h
  simp only [okRow, Bool.and_eq_true, List.all_eq_true] at h
  exact ⟨h.1.1, h.2.1⟩
def RGameBy (ds : List D) (r : D) : Prop := ∃ (ls rs : List T) (a b : D), ds = [a, b] ∧ (a = .list (ls.map T.data) ∨ a = .tuple (ls.map T.data)) ∧ (b = .list (rs.map T.data) ∨ b = .tuple (rs.map T.data)) ∧ (∀ t ∈ ls, full t = true) ∧ (∀ t ∈ rs, full t = true) ∧ T.depths ls ≤ 8 ∧ T.depths rs ≤ 8 ∧ ls.length < 64 ∧ rs.length < 64 ∧ r = (T.gm (T.set ls) (T.set rs)).data
/-! ### lasting -/
abbrev sLasting : Stmt := topS 9
abbrev nLasting : List Str := ["game", "other"]
theorem scLasting : FnScope nLasting ["game"] (defScope sLasting) := ⟨rfl, rfl, rfl, by decide +kernel, rfl, by decide +kernel, by decide +kernel⟩
section
variable {P : Program} {w : World} {K : PySem.W.Frag} {mg : Str → Option Value} {base : Heap} {f : Addr} {fd : FuncData} {k j : Nat}
theorem has_lasting1 (B : BI mg) (F : Fun K "lasting" "lasting" sLasting f fd) (b : Binds K fd ["game"] []) (hm : mg "lasting" = some (.ref f)) {N : Nat}
    (h_lasting : Has P w K mg base k "lasting" (SpR K (RLast N))) : Has P w K mg base (k + 1) "lasting" (SpR K (RLast (N + 1))) := by
  refine has_of F b hm scLasting (by decide) (fun ds r h => by obtain ⟨_, _, rfl, _⟩ := h; rfl) (fun cdv A outer s H E hr => ⟨_, (pss_one (ps_ret (pe_callB (cr_maxK K rfl rfl) (by rfl) B.max boot_max (pa_cons (pe_op (op_addK K rfl) (pe_lst (pa_cons pe_int pa_nil)) (pe_lc (own := [("other", 1)]) rfl scLasting.nd (pi_tupK K rfl (pe_op (op_addK K rfl) (pe_ix (ix_K K rfl) (pv 0) pe_int (fun _ _ => rfl)) (pe_ix (ix_K K rfl) (pv 0) pe_int (fun _ _ => rfl)))) (blkOk_by (N := nLasting) (sc := defScope sLasting) (by decide +kernel)) (fun _ _ _ _ _ => (pg_name (i := 1) scLasting.nd rfl (by first | exact .inl rfl | exact .inr rfl))) (fun _ _ _ _ _ => pts_nil) (fun _ _ _ _ _ => (pe_op (op_addK K rfl) pe_int (pe_h h_lasting hr (by omega) (by rfl) (pa_cons (pv 1) pa_nil)))))) pa_nil)))), fun ds r h => ?_⟩)
  try dsimp only [cxOf, Cx.nox, Cx.wish]
  obtain ⟨d, n, rfl, hn, ok, hz, rfl⟩ := h
  obtain ⟨a, b, rfl⟩ := okG_shape ok
  obtain ⟨n, rfl⟩ : ∃ m, n = m + 1 := by
    cases n with
    | zero => cases ok
    | succ n => exact ⟨n, rfl⟩
  obtain ⟨oa, ob⟩ := okG_row ok
  simp only [sz, szs] at hz
  have la := len_szs a
  have lb := len_szs b
  refine xd_ret (ed_cb (eds_cons (ed_el (el_op (ed_el (el_lst (ds := [.int 0]) (eds_cons ed_int eds_nil))) (ed_el (el_mapT (ds := a ++ b) (fun x => .int (1 + lastF n x)) (ed_op (ed_op (ed_var rfl) ed_int (rd_ixUT rfl)) (ed_op (ed_var rfl) ed_int (rd_ixUT rfl)) (rd_addT (by omega))) (fun x hx => ?_) (by rw [List.length_append]; omega))) (rl_addL ?_))) eds_nil) (cd_max (ns := 0 :: (a ++ b).map fun x => 1 + lastF n x) ?_ (mx_mem _) ?_))
  · refine ed_op ed_int (ed_call (eds_cons (ed_var rfl) eds_nil) ⟨x, n, rfl, by omega, ?_, ?_, rfl⟩) rd_addI
    · rcases List.mem_append.mp hx with h | h
      · exact oa x h
      · exact ob x h
    · rcases List.mem_append.mp hx with h | h
      · have := sz_mem h; omega
      · have := sz_mem h; omega
  · rw [List.length_map, List.length_append, List.length_singleton]; omega
  · rw [List.map_cons, List.map_map]; rfl
  · intro y hy
    obtain ⟨h1, h2⟩ := mx_le ((a ++ b).map fun x => 1 + lastF n x)
    rcases List.mem_cons.mp hy with e | hy
    · rw [e]; exact h1
    · exact h2 y hy
theorem has_lasting (B : BI mg) (F : Fun K "lasting" "lasting" sLasting f fd) (b : Binds K fd ["game"] []) (hm : mg "lasting" = some (.ref f)) : ∀ N : Nat, Has P w K mg base (k + N) "lasting" (SpR K (RLast N))
  | 0 => has_none F b hm fun ds r h => by obtain ⟨_, d, _, h, _⟩ := h; omega
  | N + 1 => has_lasting1 B F b hm (has_lasting B F b hm N)
end
/-! ### game_by -/
abbrev sGameBy : Stmt := topS 10
abbrev nGameBy : List Str := ["lefts", "rights"]
theorem scGameBy : FnScope nGameBy ["lefts", "rights"] (defScope sGameBy) := ⟨rfl, rfl, rfl, by decide +kernel, rfl, by decide +kernel, by decide +kernel⟩
section
variable {P : Program} {w : World} {K : PySem.W.Frag} {mg : Str → Option Value} {base : Heap} {f : Addr} {fd : FuncData} {k j : Nat}
theorem has_game_by (B : BI mg) (F : Fun K "game_by" "game_by" sGameBy f fd) (b : Binds K fd ["lefts", "rights"] []) (hm : mg "game_by" = some (.ref f)) : Has P w K mg base (k + 1) "game_by" (SpR K RGameBy) := by
  refine has_of F b hm scGameBy (by decide) (fun ds r h => by obtain ⟨_, _, _, _, rfl, _⟩ := h; rfl) (fun cdv A outer s H E hr => ⟨_, (pss_one (ps_ret (pe_tup (pa_cons (pe_callTy (call_tupleK K rfl) (by rfl) B.tuple boot_tuple (pa_cons (pe_callB (cr_sortSetK K w rfl rfl rfl (hu80 hr)) (by rfl) B.sorted boot_sorted (pa_cons (pe_callTy (cr_setK K w rfl rfl rfl (hu20 hr)) (by rfl) B.set boot_set (pa_cons (pv 0) pa_nil)) pa_nil)) pa_nil)) (pa_cons (pe_callTy (call_tupleK K rfl) (by rfl) B.tuple boot_tuple (pa_cons (pe_callB (cr_sortSetK K w rfl rfl rfl (hu80 hr)) (by rfl) B.sorted boot_sorted (pa_cons (pe_callTy (cr_setK K w rfl rfl rfl (hu20 hr)) (by rfl) B.set boot_set (pa_cons (pv 1) pa_nil)) pa_nil)) pa_nil)) pa_nil))))), fun ds r h => ?_⟩)
  try dsimp only [cxOf, Cx.nox, Cx.wish]
  obtain ⟨ls, rs, a, b, rfl, ha, hb, fl, fr, dl, dr, nl, nr, rfl⟩ := h
  rw [T.gm_data]
  exact xd_ret (ed_tup (eds_cons (ed_cb (eds_cons (ed_el (el_sortSet (ed_var rfl) ha fl dl nl)) eds_nil) cd_tupL) (eds_cons (ed_cb (eds_cons (ed_el (el_sortSet (ed_var rfl) hb fr dr nr)) eds_nil) cd_tupL) eds_nil)) (by simp))
end
/-! a game's writing -/
def wordsF : Nat → D → List Str
  | 0, _ => []
  | f + 1, d => match d with
    | .tuple [.tuple a, .tuple b] => [("[" : Str)] ++ a.flatMap (wordsF f) ++ [("|" : Str)] ++ b.flatMap (wordsF f) ++ [("]" : Str)]
    | _ => []
/-- put together with blanks between -/
def jn (ws : List Str) : Str := Str.join " " ws
theorem jn_app : ∀ {xs ys : List Str}, xs ≠ [] → ys ≠ [] → jn (xs ++ ys) = jn xs ++ " " ++ jn ys
  | [], _, h, _ => absurd rfl h
  | [x], [], _, h => absurd rfl h
  | [x], y :: ys, _, _ => rfl
  | x :: z :: xs, ys, _, hy => by
    have ih := jn_app (xs := z :: xs) (ys := ys) (by simp) hy
    show x ++ (" " : Str) ++ jn ((z :: xs) ++ ys) = x ++ (" " : Str) ++ jn (z :: xs) ++ " " ++ jn ys
    rw [ih, Str.append_assoc, Str.append_assoc, Str.append_assoc, Str.append_assoc, Str.append_assoc]
theorem txt_jn (ws : List Str) : Txt.join " " ws = jn ws := TL.join_eq " " ws
theorem words_len : ∀ (f : Nat) (d : D), (wordsF f d).length ≤ sz d ∧ ∀ w ∈ wordsF f d, w.length = 1
  | 0, d => ⟨Nat.zero_le _, by simp [wordsF]⟩
  | f + 1, d => by
    unfold wordsF
    split
    · rename_i a b
      have row : ∀ l : List D, (l.flatMap (wordsF f)).length ≤ szs l ∧ ∀ w ∈ l.flatMap (wordsF f), w.length = 1 := fun l => by
        refine ⟨?_, fun w hw => ?_⟩
        · induction l with
          | nil => simp [szs]
          | cons x l ih =>
            rw [List.flatMap_cons, List.length_append, szs]
            have := (words_len f x).1
            omega
        · obtain ⟨x, _, hx⟩ := List.mem_flatMap.mp hw
          exact (words_len f x).2 w hx
      refine ⟨?_, fun w hw => ?_⟩
      · have h1 := (row a).1
        have h2 := (row b).1
        simp only [List.length_append, List.length_singleton, sz, szs]
        omega
      · simp only [List.mem_append, List.mem_singleton] at hw
        rcases hw with (((h | h) | h) | h) | h
        · rw [h]; rfl
        · exact (row a).2 w h
        · rw [h]; rfl
        · exact (row b).2 w h
        · rw [h]; rfl
    · exact ⟨Nat.zero_le _, by simp⟩
theorem words_ne {f : Nat} {d : D} (h : okG f d = true) : wordsF f d ≠ [] := by
  cases f with
  | zero => cases h
  | succ f =>
    obtain ⟨a, b, rfl⟩ := okG_shape h
    simp [wordsF]
theorem jn_len : ∀ {ws : List Str}, (∀ w ∈ ws, w.length = 1) → (jn ws).length ≤ 2 * ws.length
  | [], _ => Nat.zero_le _
  | [x], h => by
    have := h x List.mem_cons_self
    show x.length ≤ 2
    omega
  | x :: y :: ws, h => by
    have ih := jn_len (ws := y :: ws) fun w hw => h w (List.mem_cons_of_mem _ hw)
    have hx := h x List.mem_cons_self
    show (x ++ (" " : Str) ++ jn (y :: ws)).length ≤ _
    have e : (" " : Str).length = 1 := rfl
    rw [Str.length_append, Str.length_append, hx, e]
    simp only [List.length_cons] at ih ⊢
    omega
theorem jn_sum : ∀ {ws : List Str}, (∀ w ∈ ws, w.length = 1) → (ws.map (·.length)).sum = ws.length
  | [], _ => rfl
  | w :: ws, h => by
    rw [List.map_cons, List.sum_cons, h w List.mem_cons_self, jn_sum fun x hx => h x (List.mem_cons_of_mem _ hx), List.length_cons]; omega
def RWords (F : Nat) (ds : List D) (r : D) : Prop := ∃ (d : D) (f : Nat), ds = [d] ∧ f < F ∧ okG f d = true ∧ sz d ≤ 40000 ∧ r = .list ((wordsF f d).map PyData.str)
def RLawWr (F : Nat) (ds : List D) (r : D) : Prop := ∃ (d : D) (f : Nat), ds = [d] ∧ f < F ∧ okG f d = true ∧ sz d ≤ 40000 ∧ r = .str (jn (wordsF f d))
theorem imms_strs : ∀ ws : List Str, imms (ws.map PyData.str) = true
  | [] => rfl
  | w :: ws => by
    show (true && imms (ws.map PyData.str)) = true
    rw [imms_strs ws]; rfl
theorem flat_take {g : D → List Str} {l : List D} {i : Nat} {x : D} (h : l[i]? = some x) : (l.take (i + 1)).flatMap g = (l.take i).flatMap g ++ g x := by
  rw [List.take_add_one, h, Option.toList_some, List.flatMap_append, List.flatMap_cons, List.flatMap_nil, List.append_nil]
theorem flat_len (f : Nat) : ∀ l : List D, (l.flatMap (wordsF f)).length ≤ szs l
  | [] => Nat.zero_le _
  | x :: l => by
    rw [List.flatMap_cons, List.length_append, szs]
    have := (words_len f x).1
    have := flat_len f l
    omega
theorem flat_one (f : Nat) (l : List D) : ∀ w ∈ l.flatMap (wordsF f), w.length = 1 := fun w hw => by
  obtain ⟨x, _, hx⟩ := List.mem_flatMap.mp hw
  exact (words_len f x).2 w hx
theorem imm_okG {f : Nat} {d : D} (h : okG f d = true) : imm d = true := by
  rw [(okG_T f d h).1]; exact imm_T _
theorem imms_okG {f : Nat} {l : List D} (h : ∀ x ∈ l, okG f x = true) : imms l = true := imms_of fun d hd => imm_okG (h d hd)
/-! ### game_words -/
abbrev sGameWords : Stmt := topS 12
abbrev nGameWords : List Str := ["game", "words", "other"]
theorem scGameWords : FnScope nGameWords ["game"] (defScope sGameWords) := ⟨rfl, rfl, rfl, by decide +kernel, rfl, by decide +kernel, by decide +kernel⟩
section
variable {P : Program} {w : World} {K : PySem.W.Frag} {mg : Str → Option Value} {base : Heap} {f : Addr} {fd : FuncData} {k j : Nat}
theorem has_game_words1 (B : BI mg) (F : Fun K "game_words" "game_words" sGameWords f fd) (b : Binds K fd ["game"] []) (hm : mg "game_words" = some (.ref f)) {N : Nat}
    (h_game_words : Has P w K mg base k "game_words" (SpR K (RWords N))) : Has P w K mg base (k + 1) "game_words" (SpR K (RWords (N + 1))) := by
  refine has_of F b hm scGameWords (by decide) (fun ds r h => by obtain ⟨_, _, rfl, _⟩ := h; rfl) (fun cdv A outer s H E hr => ⟨_, (pss_cons (ps_set (i := 1) scGameWords.nd rfl (by first | exact .inl rfl | exact .inr rfl) (pe_lst (pa_cons pe_str pa_nil)))
    (pss_cons (ps_for PassesOwn.never rfl (pi_tupK K rfl (pe_ix (ix_K K rfl) (pv 0) pe_int (fun _ _ => rfl))) (pg_name (i := 2) scGameWords.nd rfl (by first | exact .inl rfl | exact .inr rfl)) (pss_one (ps_expr (pe_bmK K rfl (pe_bm PySem.F.plainAttrs_list PySem.F.slot_list_extend PySem.F.type_list_extend (mt_extK K rfl) (pv 1) (pa_cons (pe_h h_game_words hr (by omega) (by rfl) (pa_cons (pv 2) pa_nil)) pa_nil))))))
    (pss_cons (ps_expr (pe_bmK K rfl (pe_bm PySem.F.plainAttrs_list PySem.F.slot_list_append PySem.F.type_list_append mt_append (pv 1) (pa_cons pe_str pa_nil))))
    (pss_cons (ps_for PassesOwn.never rfl (pi_tupK K rfl (pe_ix (ix_K K rfl) (pv 0) pe_int (fun _ _ => rfl))) (pg_name (i := 2) scGameWords.nd rfl (by first | exact .inl rfl | exact .inr rfl)) (pss_one (ps_expr (pe_bmK K rfl (pe_bm PySem.F.plainAttrs_list PySem.F.slot_list_extend PySem.F.type_list_extend (mt_extK K rfl) (pv 1) (pa_cons (pe_h h_game_words hr (by omega) (by rfl) (pa_cons (pv 2) pa_nil)) pa_nil))))))
    (pss_cons (ps_expr (pe_bmK K rfl (pe_bm PySem.F.plainAttrs_list PySem.F.slot_list_append PySem.F.type_list_append mt_append (pv 1) (pa_cons pe_str pa_nil))))
    (pss_one (ps_ret (pv 1)))))))), fun ds r h => ?_⟩)
  try dsimp only [cxOf, Cx.nox, Cx.wish]
  obtain ⟨d, n, rfl, hn, ok, hz, rfl⟩ := h
  obtain ⟨a, b, rfl⟩ := okG_shape ok
  obtain ⟨n, rfl⟩ : ∃ m, n = m + 1 := by
    cases n with
    | zero => cases ok
    | succ n => exact ⟨n, rfl⟩
  obtain ⟨oa, ob⟩ := okG_row ok
  simp only [sz, szs] at hz
  refine (show XD K _ [some (.tuple [.tuple a, .tuple b]), none, none] none _ from ?_)
  have la : ∀ i, ((a.take i).flatMap (wordsF n)).length ≤ szs a := fun i => Nat.le_trans (flat_len n _) (szs_take a i)
  have lb : ∀ i, ((b.take i).flatMap (wordsF n)).length ≤ szs b := fun i => Nat.le_trans (flat_len n _) (szs_take b i)
  refine xd_seq (xd_asgOwn (ds := [(.str "[" : D)]) (el_lst (eds_cons ed_str eds_nil))) ?_
  refine xd_seq (xd_forT (items := a) (fun _ => [some (.tuple [.tuple a, .tuple b]), none, none]) (fun i => some (1, ([("[" : Str)] ++ (a.take i).flatMap (wordsF n)).map PyData.str)) (ed_op (ed_var rfl) ed_int (rd_ixUT rfl)) (.inr ?_) rfl rfl (fun i q e => by cases e; show (1 : Nat) ≠ 2; decide) (Go.allF (fun _ d => by simp) (fun _ => rfl) fun i x hx => ?_)) ?_
  · exact imms_okG oa
  · have hm := List.mem_of_getElem? hx
    have := sz_mem hm
    have := la i
    have := (words_len n x).1
    refine xd_out (xd_ext (es := (wordsF n x).map PyData.str) (ed_call (eds_cons (ed_var rfl) eds_nil) ⟨x, n, rfl, by omega, oa x hm, by omega, rfl⟩) (imms_strs _) ?_) (by rw [flat_take hx, ← List.append_assoc, List.map_append (l₂ := wordsF n x)])
    simp only [List.length_map, List.length_append, List.length_singleton]
    omega
  rw [List.take_length]
  have := la a.length
  rw [List.take_length] at this
  refine xd_seq (xd_out (xd_app ed_str rfl (by simp only [List.length_map, List.length_append, List.length_singleton]; omega)) (o' := .nx [some (.tuple [.tuple a, .tuple b]), none, none] (some (1, ([("[" : Str)] ++ a.flatMap (wordsF n) ++ [("|" : Str)]).map PyData.str))) (by rw [List.map_append (l₂ := [("|" : Str)])]; rfl)) ?_
  refine xd_seq (xd_forT (items := b) (fun _ => [some (.tuple [.tuple a, .tuple b]), none, none]) (fun i => some (1, ([("[" : Str)] ++ a.flatMap (wordsF n) ++ [("|" : Str)] ++ (b.take i).flatMap (wordsF n)).map PyData.str)) (ed_op (ed_var rfl) ed_int (rd_ixUT rfl)) (.inr ?_) rfl (by rw [List.take_zero, List.flatMap_nil, List.append_nil]) (fun i q e => by cases e; show (1 : Nat) ≠ 2; decide) (Go.allF (fun _ d => by simp) (fun _ => rfl) fun i x hx => ?_)) ?_
  · exact imms_okG ob
  · have hm := List.mem_of_getElem? hx
    have := sz_mem hm
    have := lb i
    have := (words_len n x).1
    refine xd_out (xd_ext (es := (wordsF n x).map PyData.str) (ed_call (eds_cons (ed_var rfl) eds_nil) ⟨x, n, rfl, by omega, ob x hm, by omega, rfl⟩) (imms_strs _) ?_) (by rw [flat_take hx, ← List.append_assoc, List.map_append (l₂ := wordsF n x)])
    simp only [List.length_map, List.length_append, List.length_singleton]
    omega
  rw [List.take_length]
  have := lb b.length
  rw [List.take_length] at this
  refine xd_seq (xd_app ed_str rfl (by simp only [List.length_map, List.length_append, List.length_singleton]; omega)) (xd_ret (ed_is (ed_var rfl) ?_))
  show PyData.list _ = PyData.list ((wordsF (n + 1) (.tuple [.tuple a, .tuple b])).map PyData.str)
  unfold wordsF
  rw [List.map_append (l₂ := [("]" : Str)])]
  rfl
theorem has_game_words (B : BI mg) (F : Fun K "game_words" "game_words" sGameWords f fd) (b : Binds K fd ["game"] []) (hm : mg "game_words" = some (.ref f)) : ∀ N : Nat, Has P w K mg base (k + N) "game_words" (SpR K (RWords N))
  | 0 => has_none F b hm fun ds r h => by obtain ⟨_, d, _, h, _⟩ := h; omega
  | N + 1 => has_game_words1 B F b hm (has_game_words B F b hm N)
end
end LM

set_option Elab.async false
set_option linter.all false
set_option maxRecDepth 100000
set_option maxHeartbeats 4000000
namespace LM
open PySem PySem.Spec PyProof.Rows L2 Evl
/-! how large a drawn game is; that it is a game -/
def bnd : Nat → Nat
  | 0 => 3
  | 1 => 9
  | m + 2 => 3 + 4 * bnd (m + 1)
theorem szs_le {k : Nat} : ∀ {ds : List D}, (∀ d ∈ ds, sz d ≤ k) → szs ds ≤ k * ds.length
  | [], _ => by simp [szs]
  | d :: ds, h => by
    have h1 := h d List.mem_cons_self
    have h2 := szs_le fun x hx => h x (List.mem_cons_of_mem _ hx)
    rw [szs, List.length_cons, Nat.mul_succ]; omega
theorem gm_sz (ls rs : List T) : sz (T.gm ls rs).data = szs (ls.map T.data) + szs (rs.map T.data) + 3 := by
  rw [T.gm_data]
  simp only [sz, szs]
  omega
theorem one_row {l : List T} {c : T} (h : T.Asc l) (e : ∀ x ∈ l, x = c) : l.length ≤ 1 := by
  match l, h with
  | [], _ => exact Nat.zero_le _
  | [x], _ => exact Nat.le_refl _
  | x :: y :: r, h =>
    have n := h.nodup
    rw [e x List.mem_cons_self, e y (List.mem_cons_of_mem _ List.mem_cons_self)] at n
    simp at n
theorem row_sz {k : Nat} {ls : List T} {n : Nat} (h : ∀ x ∈ ls, sz x.data ≤ k) (hl : ls.length ≤ n) : szs (ls.map T.data) ≤ k * n := by
  have h1 : szs (ls.map T.data) ≤ k * (ls.map T.data).length := szs_le fun d hd => by
    obtain ⟨x, hx, rfl⟩ := List.mem_map.mp hd
    exact h x hx
  rw [List.length_map] at h1
  exact Nat.le_trans h1 (Nat.mul_le_mul_left k hl)
theorem T.G.sz : ∀ {m : Nat} {t : T}, T.G m t → LM.sz t.data ≤ bnd m
  | 0, t, h => by
    rw [show t = T.gm [] [] from h, gm_sz]; simp [szs, bnd]
  | 1, t, h => by
    obtain ⟨ls, rs, rfl, a, b, _, _, h1, h2⟩ := h
    have z : LM.sz (T.gm [] []).data = 3 := by rw [gm_sz]; simp [szs]
    have l1 := row_sz (k := 3) (fun x hx => by rw [show x = T.gm [] [] from h1 x hx, z]; exact Nat.le_refl _) (one_row a h1)
    have l2 := row_sz (k := 3) (fun x hx => by rw [show x = T.gm [] [] from h2 x hx, z]; exact Nat.le_refl _) (one_row b h2)
    rw [gm_sz]
    show _ ≤ 9
    omega
  | m + 2, t, h => by
    obtain ⟨ls, rs, rfl, _, _, l1, l2, h1, h2⟩ := h
    have a := row_sz (fun x hx => T.G.sz (h1 x hx)) l1
    have b := row_sz (fun x hx => T.G.sz (h2 x hx)) l2
    rw [gm_sz, bnd]
    omega
theorem okG_gm {n : Nat} {ls rs : List T} (a : T.Asc ls) (b : T.Asc rs) (h1 : ∀ x ∈ ls, okG n x.data = true) (h2 : ∀ x ∈ rs, okG n x.data = true) : okG (n + 1) (T.gm ls rs).data = true := by
  rw [T.gm_data, okG_two]
  have row : ∀ l : List T, T.Asc l → (∀ x ∈ l, okG n x.data = true) → okRow (okG n) (.tuple (l.map T.data)) = true := fun l a h => by
    show ((l.map T.data).all (okG n) && ascB ((l.map T.data).map ofD)) = true
    rw [ofDs_map, Bool.and_eq_true, List.all_eq_true]
    exact ⟨fun d hd => by obtain ⟨x, hx, rfl⟩ := List.mem_map.mp hd; exact h x hx, (ascB_iff l).mpr a⟩
  rw [row ls a h1, row rs b h2]; rfl
theorem T.G.ok : ∀ {m : Nat} {t : T} {f : Nat}, T.G m t → m < f → okG f t.data = true
  | 0, t, f, h, hf => by
    rw [show t = T.gm [] [] from h]
    obtain ⟨g, rfl⟩ : ∃ g, f = g + 1 := ⟨f - 1, by omega⟩
    exact okG_gm List.Pairwise.nil List.Pairwise.nil (by simp) (by simp)
  | m + 1, t, f, h, hf => by
    obtain ⟨ls, rs, rfl, a, b, _, _, h1, h2⟩ := h
    obtain ⟨g, rfl⟩ : ∃ g, f = g + 1 := ⟨f - 1, by omega⟩
    exact okG_gm a b (fun x hx => T.G.ok (h1 x hx) (by omega)) (fun x hx => T.G.ok (h2 x hx) (by omega))
/-- a thing wrapped over and over -/
def wrapN (d : D) : Nat → D
  | 0 => d
  | i + 1 => if i % 2 = 0 then .tuple [.tuple [wrapN d i], .tuple []] else .tuple [.tuple [], .tuple [wrapN d i]]
theorem wrap_sz (d : D) : ∀ i, sz (wrapN d i) = sz d + 3 * i
  | 0 => rfl
  | i + 1 => by
    have ih := wrap_sz d i
    unfold wrapN
    split <;> simp only [sz, szs] <;> omega
theorem wrap_fit {m : Nat} {d : D} (h : fitD m d) : ∀ i, fitD (m + 2 * i + 1) (wrapN d i)
  | 0 => h.mono (by omega)
  | i + 1 => by
    have ih := wrap_fit h i
    have e0 : ∀ n, fitD (n + 1) (.tuple []) := fun n => fit_tup.mpr fun d hd => by cases hd
    have e1 : fitD (m + 2 * (i + 1)) (.tuple [wrapN d i]) := by
      rw [show m + 2 * (i + 1) = (m + 2 * i + 1) + 1 by omega]
      exact fit_tup.mpr fun d hd => by rw [List.mem_singleton.mp hd]; exact ih
    have e2 : fitD (m + 2 * (i + 1)) (.tuple []) := by
      rw [show m + 2 * (i + 1) = (m + 2 * i + 1) + 1 by omega]
      exact e0 _
    unfold wrapN
    split
    · refine fit_tup.mpr fun x hx => ?_
      rcases List.mem_cons.mp hx with e | hx
      · rw [e]; exact e1
      · rw [List.mem_singleton.mp hx]; exact e2
    · refine fit_tup.mpr fun x hx => ?_
      rcases List.mem_cons.mp hx with e | hx
      · rw [e]; exact e2
      · rw [List.mem_singleton.mp hx]; exact e1
theorem wrap_at (d : D) (i : Nat) : atI [PyData.tuple [.tuple [wrapN d i], .tuple []], .tuple [.tuple [], .tuple [wrapN d i]]] ((0 + (i : Int)) % 2) = some (wrapN d (i + 1)) := by
  have h0 := Int.emod_nonneg (0 + (i : Int)) (show (2 : Int) ≠ 0 by decide)
  have h1 := Int.emod_lt_of_pos (0 + (i : Int)) (show (0 : Int) < 2 by decide)
  show _ = some (if i % 2 = 0 then _ else _)
  by_cases c : i % 2 = 0
  · have e : (0 + (i : Int)) % 2 = 0 := by omega
    rw [if_pos c, e]; rfl
  · have e : (0 + (i : Int)) % 2 = 1 := by omega
    rw [if_neg c, e]; rfl
theorem xd_seqE {K : PySem.W.Frag} {ρ : Rho} {ω ω' : Om} {t u : TS} {o : Out} {α : Type} {p : α → Prop} {g : α → Rho} (h : ∃ d, p d ∧ XD K t ρ ω (.nx (g d) ω')) (k : ∀ d, p d → XD K u (g d) ω' o) : XD K (tSeq t u) ρ ω o := by
  obtain ⟨d, h1, h2⟩ := h
  exact xd_seq h2 (k d h1)
def RLaw (ds : List D) (r : D) : Prop := ∃ ns : List Int, ds = [.list (ns.map PyData.int)] ∧ r = .bool true
theorem rng4 (g : Int → D) : (rngD 0 (4 : Int).toNat).map (fun d => g (4 + intD d)) = [g 4, g 5, g 6, g 7] := rfl
section
variable {K : PySem.W.Frag} {cNoGame : Addr}
def RWritten (cNoGame : Addr) (ds : List D) (o : Res) : Prop := ∃ d : D, ds = [d] ∧ sz d ≤ 20000 ∧ o = if okG 13 d = true then .inl (.str (jn (wordsF 13 d))) else .inr cNoGame
def RRefused (ds : List D) (r : D) : Prop := ∃ d : D, ds = [d] ∧ sz d ≤ 20000 ∧ okG 13 d = false ∧ r = .bool true
/-- what is asked of the errors' classes -/
structure XFacts (K : PySem.W.Frag) (cMoveError cNoGame cNoText : Addr) : Prop where
  ec : ExcC K cNoGame
  self : PySem.W.exmOne K (.ref cNoGame) (.ref cNoGame) = some true
  base : PySem.W.exmOne K (.ref cNoGame) (.ref cMoveError) = some true
  i1 : PySem.W.kitOne K (.ref cNoGame) (.ref cNoGame) = some true
  i2 : PySem.W.kitOne K (.ref cNoGame) (.type "ValueError") = some true
  i3 : PySem.W.kitOne K (.ref cNoGame) (.ref cNoText) = some false
end
/-! ### written -/
abbrev sWritten : Stmt := topS 13
abbrev nWritten : List Str := ["game"]
theorem scWritten : FnScope nWritten ["game"] (defScope sWritten) := ⟨rfl, rfl, rfl, by decide +kernel, rfl, by decide +kernel, by decide +kernel⟩
section
variable {P : Program} {w : World} {K : PySem.W.Frag} {mg : Str → Option Value} {base : Heap} {f : Addr} {fd : FuncData} {k j : Nat} {cNoGame : Addr}
theorem has_written (B : BI mg) (T_NoGame : XCls K mg "NoGame" cNoGame) (F : Fun K "written" "written" sWritten f fd) (b : Binds K fd ["game"] []) (hm : mg "written" = some (.ref f)) (h_is_game : Has P w K mg base k "is_game" (SpR K RIs)) (h_game_words : Has P w K mg base k "game_words" (SpR K (RWords 14))) : HasX P w K mg base (k + 1) "written" (SpX K (RWritten cNoGame)) := by
  refine hasX_of F b hm scWritten (by decide) (fun ds r h => by obtain ⟨_, rfl, _⟩ := h; rfl) (fun cdv A outer s H E hr => ⟨_, (pss_cons (ps_if (pt_not (pt_val (pe_h h_is_game hr (by omega) (by rfl) (pa_cons (pv 0) pa_nil)))) (pss_one (ps_raiseC rfl (takes_of rfl rfl rfl rfl) T_NoGame (by rfl))) pss_nil)
    (pss_one (ps_ret (pe_joinK K rfl pe_str (pe_h h_game_words hr (by omega) (by rfl) (pa_cons (pv 0) pa_nil)))))), fun ds o h => ?_⟩)
  try dsimp only [cxOf, Cx.nox, Cx.wish]
  obtain ⟨d, rfl, hz, rfl⟩ := h
  have te : ET K (tB (tCall (SpR K RIs) [] E0 (tCons (tVar 0) tNil))) [some d] (okG 13 d) := et_B (ed_call (eds_cons (ed_var rfl) eds_nil) ⟨d, rfl, by omega, rfl⟩)
  cases ok : okG 13 d with
  | true =>
    rw [ok] at te
    rw [if_pos rfl]
    have l1 := words_len 13 d
    refine xd_seq (xd_ifF (et_not te) xd_next) (xd_ret (ed_is (ed_join (ys := wordsF 13 d) ed_str (ed_call (eds_cons (ed_var rfl) eds_nil) ⟨d, 13, rfl, by decide, ok, by omega, rfl⟩) rfl ?_) (by rw [txt_jn])))
    rw [jn_sum l1.2, show (" " : Str).length = 1 from rfl]
    omega
  | false =>
    rw [ok] at te
    rw [if_neg Bool.false_ne_true]
    exact ⟨_, xr_seq1 (xr_ifT (et_not te) xr_raise)⟩
end
end LM

set_option Elab.async false
set_option linter.all false
set_option maxRecDepth 100000
set_option maxHeartbeats 4000000
namespace LM
open PySem PySem.Spec PyProof.Rows L2 Evl
/-! reading -/
def rgL (g : List Str → Option (D × List Str)) (e : Str) : Nat → List Str → List D → Option (List D × List Str)
  | 0, _, _ => none
  | _ + 1, [], _ => none
  | n + 1, w :: ws, acc => if w = e then some (acc, ws) else match g (w :: ws) with
    | none => none
    | some (d, r) => rgL g e n r (acc ++ [d])
def rf : Nat → List Str → Option (D × List Str)
  | 0, _ => none
  | _ + 1, [] => none
  | f + 1, w :: ws => if w = ("[" : Str) then (match rgL (rf f) ("|" : Str) (ws.length + 1) ws [] with
      | none => none
      | some (ls, r) => match rgL (rf f) ("]" : Str) (r.length + 1) r [] with
        | none => none
        | some (rs, r2) => some (.tuple [.tuple ls, .tuple rs], r2)) else none
structure Eats (ws r : List Str) (n : Nat) : Prop where
  suf : ∃ m, r = ws.drop m
  len : n + r.length ≤ ws.length
def GoodG (g : List Str → Option (D × List Str)) : Prop := ∀ ws d r, g ws = some (d, r) → Eats ws r (sz d) ∧ imm d = true
theorem Eats.trans {a b c : List Str} {n m : Nat} (h : Eats a b n) (k : Eats b c m) : Eats a c (n + m) := by
  obtain ⟨i, hi⟩ := h.suf
  obtain ⟨j, hj⟩ := k.suf
  refine ⟨⟨i + j, by rw [hj, hi, List.drop_drop]⟩, ?_⟩
  have := h.len
  have := k.len
  omega
theorem Eats.one {w : Str} {ws : List Str} : Eats (w :: ws) ws 1 := ⟨⟨1, rfl⟩, by rw [List.length_cons]; omega⟩
theorem rgL_good {g : List Str → Option (D × List Str)} (hg : GoodG g) (e : Str) : ∀ (n : Nat) (ws : List Str) (acc ls : List D) (r : List Str), rgL g e n ws acc = some (ls, r) → imms acc = true → ∃ es, ls = acc ++ es ∧ Eats ws r (szs es + 1) ∧ imms ls = true
  | 0, _, _, _, _, h, _ => by cases h
  | _ + 1, [], _, _, _, h, _ => by cases h
  | n + 1, w :: ws, acc, ls, r, h, ha => by
    unfold rgL at h
    split at h
    · cases h
      exact ⟨[], by simp, Eats.one, ha⟩
    · split at h
      · cases h
      · rename_i d r1 hg1
        obtain ⟨e1, i1⟩ := hg _ _ _ hg1
        have ia : imms (acc ++ [d]) = true := imms_of fun x hx => by
          rcases List.mem_append.mp hx with hx | hx
          · exact imms_get ha hx
          · rw [List.mem_singleton.mp hx]; exact i1
        obtain ⟨es, e2, e3, e4⟩ := rgL_good hg e n r1 (acc ++ [d]) ls r h ia
        refine ⟨d :: es, by rw [e2, List.append_assoc]; rfl, ?_, e4⟩
        have := e1.trans e3
        rw [szs, Nat.add_assoc]
        exact this
theorem rf_good : ∀ f, GoodG (rf f)
  | 0 => fun ws d r h => by cases h
  | f + 1 => fun ws d r h => by
    cases ws with
    | nil => cases h
    | cons w ws =>
      unfold rf at h
      split at h
      · split at h
        · cases h
        · rename_i ls r1 h1
          split at h
          · cases h
          · rename_i rs r2 h2
            cases h
            obtain ⟨e1, a1, b1, c1⟩ := rgL_good (rf_good f) _ _ _ _ _ _ h1 rfl
            obtain ⟨e2, a2, b2, c2⟩ := rgL_good (rf_good f) _ _ _ _ _ _ h2 rfl
            rw [List.nil_append] at a1 a2
            subst a1 a2
            have b3 := (Eats.one (w := w)).trans (b1.trans b2)
            refine ⟨⟨b3.suf, ?_⟩, by simp only [imm, imms, c1, c2, Bool.and_true]⟩
            have := b3.len
            simp only [sz, szs]
            omega
      · cases h
/-- a suffix by its place -/
theorem Eats.at {ws r : List Str} {n : Nat} (h : Eats ws r n) : ws.drop (ws.length - r.length) = r := by
  obtain ⟨m, rfl⟩ := h.suf
  rw [List.length_drop]
  rcases Nat.le_total m ws.length with c | c
  · rw [show ws.length - (ws.length - m) = m by omega]
  · rw [List.drop_eq_nil_of_le c, List.drop_eq_nil_of_le (by omega)]
theorem Eats.drop {ws r : List Str} {i n : Nat} (h : Eats (ws.drop i) r n) : Eats ws r n := by
  obtain ⟨m, e⟩ := h.suf
  refine ⟨⟨i + m, by rw [e, List.drop_drop]⟩, ?_⟩
  have := h.len
  rw [List.length_drop] at this
  omega
def RFrom (cNoText : Addr) (F : Nat) (ds : List D) (o : Res) : Prop := ∃ (ws : List Str) (i f : Nat), ds = [.list (ws.map PyData.str), .int (i : Int), .int (13 - (f : Int))] ∧ f < F ∧ i < ws.length ∧ ws.length ≤ 40000 ∧
  o = match rf f (ws.drop i) with
    | none => .inr cNoText
    | some (d, r) => .inl (.tuple [d, .int ((ws.length - r.length : Nat) : Int)])
def RGames (cNoText : Addr) (F : Nat) (ds : List D) (o : Res) : Prop := ∃ (ws : List Str) (i f : Nat) (e : Str), ds = [.list (ws.map PyData.str), .int (i : Int), .str e, .int (13 - (f : Int))] ∧ f < F ∧ i ≤ ws.length ∧ ws.length ≤ 40000 ∧
  o = match rgL (rf f) e ((ws.drop i).length + 1) (ws.drop i) [] with
    | none => .inr cNoText
    | some (ls, r) => .inl (.tuple [.tuple ls, .int ((ws.length - r.length : Nat) : Int)])
/-- the loop over the games: it ends before the end's word, or the words are lacking, or a game lets the error out -/
theorem games_loop {K : PySem.W.Frag} {W : WX} {C : Addr} {tt : TT} {tu : TS} {ws : List Str} {e : Str} {f : Nat} {st : Nat → Rho} {s0 : Nat} (hl : ws.length ≤ 40000)
    (ht : ∀ (i : Nat) (acc : List D), i ≤ ws.length → ET K tt (vw (st i) (some (s0, acc))) (match ws.drop i with | [] => false | w :: _ => !decide (w = e)))
    (hs : ∀ (i : Nat) (acc : List D) (d : D) (r : List Str), i < ws.length → rf f (ws.drop i) = some (d, r) → acc.length ≤ 40000 → XD K tu (st i) (some (s0, acc)) (.nx (st (ws.length - r.length)) (some (s0, acc ++ [d]))))
    (hr : ∀ (i : Nat) (acc : List D), i < ws.length → rf f (ws.drop i) = none → ∃ ρ', XR K W C tu (st i) (some (s0, acc)) ρ') : ∀ (n i : Nat) (acc : List D), (ws.drop i).length < n → i ≤ ws.length → szs acc + (ws.length - i) ≤ 40000 →
      match rgL (rf f) e n (ws.drop i) acc with
      | some (ls, r) => r.length < ws.length ∧ ∃ m, Wh K tt tu m (st i) (some (s0, acc)) (.nx (st (ws.length - r.length - 1)) (some (s0, ls)))
      | none => (∃ m ρ', WhR K W C tt tu m (st i) (some (s0, acc)) ρ') ∨ ∃ m acc', Wh K tt tu m (st i) (some (s0, acc)) (.nx (st ws.length) (some (s0, acc')))
  | 0, i, acc, hn, _, _ => absurd hn (Nat.not_lt_zero _)
  | n + 1, i, acc, hn, hi, hz => by
    have t0 := ht i acc hi
    cases c : ws.drop i with
    | nil =>
      rw [c] at t0
      have e1 : i = ws.length := by
        have := List.drop_eq_nil_iff.mp c
        omega
      subst e1
      exact .inr ⟨0, acc, .stop t0⟩
    | cons w r0 =>
      rw [c] at t0 hn
      have lt : i < ws.length := by
        rcases Nat.lt_or_ge i ws.length with h | h
        · exact h
        · rw [List.drop_eq_nil_of_le h] at c; cases c
      have l0 : r0.length + 1 = ws.length - i := by
        have := congrArg List.length c
        rw [List.length_drop, List.length_cons] at this
        omega
      unfold rgL
      by_cases we : w = e
      · rw [if_pos we]
        have t1 : ET K tt (vw (st i) (some (s0, acc))) false := et_is' t0 (by simp [we])
        refine ⟨by omega, 0, ?_⟩
        rw [show ws.length - r0.length - 1 = i by omega]
        exact .stop t1
      · rw [if_neg we]
        have t1 : ET K tt (vw (st i) (some (s0, acc))) true := et_is' t0 (by simp [we])
        cases hg : rf f (w :: r0) with
        | none =>
          obtain ⟨ρ', h⟩ := hr i acc lt (by rw [c]; exact hg)
          exact .inl ⟨0, ρ', .here t1 h⟩
        | some q =>
          obtain ⟨d, r⟩ := q
          obtain ⟨ea, _⟩ := rf_good f _ _ _ hg
          rw [← c] at ea
          have la := ea.len
          rw [List.length_drop] at la
          have pd := sz_pos d
          have at1 := ea.drop.at
          have acl := len_szs acc
          have step := hs i acc d r lt (by rw [c]; exact hg) (by omega)
          have ih := games_loop hl ht hs hr n (ws.length - r.length) (acc ++ [d]) (by rw [at1]; rw [List.length_cons] at hn; omega) (by omega) (by rw [szs_app]; simp only [szs]; omega)
          rw [at1] at ih
          show match rgL (rf f) e n r (acc ++ [d]) with
            | some (ls, r) => r.length < ws.length ∧ ∃ m, Wh K tt tu m (st i) (some (s0, acc)) (.nx (st (ws.length - r.length - 1)) (some (s0, ls)))
            | none => (∃ m ρ', WhR K W C tt tu m (st i) (some (s0, acc)) ρ') ∨ ∃ m acc', Wh K tt tu m (st i) (some (s0, acc)) (.nx (st ws.length) (some (s0, acc')))
          cases hq : rgL (rf f) e n r (acc ++ [d]) with
          | none =>
            rw [hq] at ih
            rcases ih with ⟨m, ρ', h⟩ | ⟨m, acc', h⟩
            · exact .inl ⟨m + 1, ρ', .step t1 step h⟩
            · exact .inr ⟨m + 1, acc', .step t1 step h⟩
          | some q2 =>
            obtain ⟨ls, r2⟩ := q2
            rw [hq] at ih
            obtain ⟨h0, m, h⟩ := ih
            exact ⟨h0, m + 1, .step t1 step h⟩
end LM

set_option Elab.async false
set_option linter.all false
set_option maxRecDepth 100000
set_option maxHeartbeats 4000000
namespace LM
open PySem PySem.Spec PyProof.Rows L2 Evl
section
variable {P : Program} {w : World} {K : PySem.W.Frag} {mg : Str → Option Value} {base : Heap} {k : Nat} {x : Str}
/-- a promise of nothing -/
theorem hasX_none {f : Addr} {fd : FuncData} {ps : List Str} {st : Stmt} {R : List D → Res → Prop} (F : Fun K x x st f fd) (b : Binds K fd ps []) (hm : mg x = some (.ref f)) (no : ∀ ds r, ¬ R ds r) : HasX P w K mg base k x (SpX K R) := by
  refine ⟨f, fd, ps, ⟨fun vs H Q E h => ?_, fun A outer s H args us vs Q E _ _ _ _ h => ?_⟩, hm, F.kp, b⟩
  · obtain ⟨ds, r, _, _, _, h, _⟩ := h; exact absurd h (no ds r)
  · obtain ⟨ds, r, _, _, _, h, _⟩ := h; exact absurd h (no ds r)
theorem drop_cons_at {α : Type} {xs : List α} {i : Nat} {a : α} {r : List α} (h : xs.drop i = a :: r) : xs[i]? = some a := by
  have := congrArg (fun l : List α => l[0]?) h
  simpa using this
end
/-! ### read_games -/
abbrev sReadGames : Stmt := topS 15
abbrev nReadGames : List Str := ["words", "at", "end", "deep", "found", "here", "game"]
theorem scReadGames : FnScope nReadGames ["words", "at", "end", "deep"] (defScope sReadGames) := ⟨rfl, rfl, rfl, by decide +kernel, rfl, by decide +kernel, by decide +kernel⟩
section
variable {P : Program} {w : World} {K : PySem.W.Frag} {mg : Str → Option Value} {base : Heap} {f : Addr} {fd : FuncData} {k j : Nat} {cNoText : Addr}
theorem has_read_games1 (B : BI mg) (T_NoText : XCls K mg "NoText" cNoText) (F : Fun K "read_games" "read_games" sReadGames f fd) (b : Binds K fd ["words", "at", "end", "deep"] []) (hm : mg "read_games" = some (.ref f)) {N : Nat}
    (h_read_from : HasX P w K mg base k "read_from" (SpX K (RFrom cNoText N))) : HasX P w K mg base (k + 1) "read_games" (SpX K (RGames cNoText N)) := by
  refine hasX_of F b hm scReadGames (by decide) (fun ds r h => by obtain ⟨_, _, _, _, rfl, _⟩ := h; rfl) (fun cdv A outer s H E hr => ⟨_, (pss_cons (ps_set (i := 4) scReadGames.nd rfl (by first | exact .inl rfl | exact .inr rfl) (pe_lst pa_nil))
    (pss_cons (ps_set (i := 5) scReadGames.nd rfl (by first | exact .inl rfl | exact .inr rfl) (pv 1))
    (pss_cons (ps_while (passes_of rfl) (pw_and (pt_cmpR (op_ltK K rfl (hu64 hr)) (pv 5) (pe_callB (call_lenK K rfl) (by rfl) B.len boot_len (pa_cons (pv 0) pa_nil)) (nomark _)) (pw_and1 (pt_cmpR (op_neK K rfl (hu64 hr)) (pe_ix (ix_K K rfl) (pv 0) (pv 5) (fun _ _ => rfl)) (pv 2) (nomark _)))).pt (pss_cons (ps_asg (pe_hs h_read_from (takes_of rfl rfl rfl rfl) hr (by omega) (by rfl) (pa_cons (pv 0) (pa_cons (pv 5) (pa_cons (pv 3) pa_nil)))) (pg_tupK K rfl (pg_tup (n := 2) rfl (pgs_cons (pg_name (i := 6) scReadGames.nd rfl (by first | exact .inl rfl | exact .inr rfl)) (pgs_cons (pg_name (i := 5) scReadGames.nd rfl (by first | exact .inl rfl | exact .inr rfl)) pgs_nil)))))
    (pss_one (ps_expr (pe_bmK K rfl (pe_bm PySem.F.plainAttrs_list PySem.F.slot_list_append PySem.F.type_list_append mt_append (pv 4) (pa_cons (pv 6) pa_nil)))))))
    (pss_cons (ps_if (pt_cmpR (op_eqK K rfl (hu64 hr)) (pv 5) (pe_callB (call_lenK K rfl) (by rfl) B.len boot_len (pa_cons (pv 0) pa_nil)) (nomark _)) (pss_one (ps_raiseC rfl (takes_of rfl rfl rfl rfl) T_NoText (by rfl))) pss_nil)
    (pss_one (ps_ret (pe_tup (pa_cons (pe_callTy (call_tupleK K rfl) (by rfl) B.tuple boot_tuple (pa_cons (pv 4) pa_nil)) (pa_cons (pe_op (op_addK K rfl) (pv 5) pe_int) pa_nil))))))))), fun ds o h => ?_⟩)
  try dsimp only [cxOf, Cx.nox, Cx.wish]
  obtain ⟨ws, i0, g, e, rfl, hg, hi, hl, rfl⟩ := h
  have st : ∃ st : Nat → Rho, st = fun i => [some (.list (ws.map PyData.str)), some (.int (i0 : Int)), some (.str e), some (.int (13 - (g : Int))), none, some (.int (i : Int)), none] := ⟨_, rfl⟩
  obtain ⟨st, est⟩ := st
  have sti : ∀ i, st i = [some (.list (ws.map PyData.str)), some (.int (i0 : Int)), some (.str e), some (.int (13 - (g : Int))), none, some (.int (i : Int)), none] := fun i => by rw [est]
  have L := games_loop (K := K) (W := fun cls d _ H => E cls d H) (C := cNoText) (tt := tAnd (tTest (tOp (rLtU K) (tVar 5) (tCB (rLen K) (tCons (tVar 0) tNil)))) (tTest (tOp (rNeU K) (tOp (rIx K) (tVar 0) (tVar 5)) (tVar 2))))
    (tu := tSeq (tAsg (tCallS (SpX K (RFrom cNoText N)) (WE fun cls d _ H => E cls d H) (tCons (tVar 0) (tCons (tVar 5) (tCons (tVar 3) tNil)))) (gTup K 2 (gCons (gName 6) (gCons (gName 5) gNil)))) (tDrop (tBM K "list" rAppend (tVar 4) (tCons (tVar 6) tNil))))
    (ws := ws) (e := e) (f := g) (st := st) (s0 := 4) hl (fun i acc hi => ?ht) (fun i acc d r hi hr ha => ?hs) (fun i acc hi hr => ?hr) ((ws.drop i0).length + 1) i0 [] (by omega) hi (by simp only [szs]; omega)
  case ht =>
    rw [sti]
    refine (show ET K _ [some (.list (ws.map PyData.str)), some (.int (i0 : Int)), some (.str e), some (.int (13 - (g : Int))), some (.list acc), some (.int (i : Int)), none] _ from ?_)
    have e1 := et_test (K := K) (ρ := [some (.list (ws.map PyData.str)), some (.int (i0 : Int)), some (.str e), some (.int (13 - (g : Int))), some (.list acc), some (.int (i : Int)), none]) (ed_op (ta := tVar 5) (ed_var rfl) (ed_cb (eds_cons (ed_var (i := 0) rfl) eds_nil) cd_lenL) rd_ltI)
    cases c : ws.drop i with
    | nil =>
      refine et_andF e1 (decide_eq_false ?_)
      have := List.drop_eq_nil_iff.mp c
      rw [List.length_map]; omega
    | cons x r0 =>
      have cx := drop_cons_at c
      refine et_is' (et_and (x := true) (y := !decide (x = e)) (et_is' e1 (decide_eq_true ?_)) fun _ => et_test (ed_op (ed_op (ed_var rfl) (ed_var rfl) (rd_ixUL (d := .str x) (atI_nat (by rw [List.getElem?_map, cx]; rfl)))) (ed_var rfl) rd_neS)) rfl
      rw [List.length_map]
      have : i < ws.length := by
        rcases Nat.lt_or_ge i ws.length with h | h
        · exact h
        · rw [List.drop_eq_nil_of_le h] at c; cases c
      omega
  case hs =>
    rw [sti, sti]
    have im := (rf_good g _ _ _ hr).2
    refine xd_less (ρ' := [some (.list (ws.map PyData.str)), some (.int (i0 : Int)), some (.str e), some (.int (13 - (g : Int))), none, some (.int ((ws.length - r.length : Nat) : Int)), some d]) (xd_seq (xd_unp (d := d) (d' := .int ((ws.length - r.length : Nat) : Int)) (ed_callS (eds_cons (ed_var rfl) (eds_cons (ed_var rfl) (eds_cons (ed_var rfl) eds_nil))) ⟨ws, i, g, rfl, hg, hi, hl, by rw [hr]⟩) (.inr ⟨im, rfl⟩) (fun q h => by cases h; exact ⟨show (4 : Nat) ≠ 6 by decide, show (4 : Nat) ≠ 5 by decide⟩)) (xd_app (ed_var rfl) im (by omega))) rfl ?_
    intro j x hj
    match j, hj with
    | 0, hj => exact hj
    | 1, hj => exact hj
    | 2, hj => exact hj
    | 3, hj => exact hj
    | 4, hj => cases hj
    | 5, hj => exact hj
    | 6, hj => cases hj
    | j + 7, hj => cases hj
  case hr =>
    rw [sti]
    exact ⟨_, xr_seq1 (xr_asg (er_callS (eds_cons (ed_var rfl) (eds_cons (ed_var rfl) (eds_cons (ed_var rfl) eds_nil))) ⟨ws, i, g, rfl, hg, hi, hl, by rw [hr]⟩))⟩
  cases hq : rgL (rf g) e ((ws.drop i0).length + 1) (ws.drop i0) [] with
  | some q =>
    obtain ⟨ls, r⟩ := q
    rw [hq] at L
    obtain ⟨lr, m, L⟩ := L
    rw [sti, sti] at L
    refine (show XD K _ [some (.list (ws.map PyData.str)), some (.int (i0 : Int)), some (.str e), some (.int (13 - (g : Int))), none, none, none] none (.rt (.tuple [.tuple ls, .int ((ws.length - r.length : Nat) : Int)])) from ?_)
    refine xd_seq (xd_asgOwn (el_lst eds_nil)) (xd_seq (xd_asg (d := .int (i0 : Int)) (ed_var rfl)) (xd_seq (xd_wh L) (xd_seq (xd_ifF (et_is' (et_test (ed_op (ed_var rfl) (ed_cb (eds_cons (ed_var rfl) eds_nil) cd_lenL) rd_eqI)) (decide_eq_false ?_)) xd_next) (xd_ret (ed_tup (eds_cons (ed_cb (eds_cons (ed_var rfl) eds_nil) cd_tupL) (eds_cons (ed_is (ed_op (ed_var rfl) ed_int rd_addI) ?_) eds_nil)) (show 2 ≤ 1000 by decide))))))
    · rw [List.length_map]; omega
    · congr 1; omega
  | none =>
    rw [hq] at L
    refine (show ∃ ρ', XR K _ cNoText _ [some (.list (ws.map PyData.str)), some (.int (i0 : Int)), some (.str e), some (.int (13 - (g : Int))), none, none, none] none ρ' from ?_)
    rcases L with ⟨m, ρ', L⟩ | ⟨m, acc', L⟩
    · rw [sti] at L
      exact ⟨_, xr_seq (xd_asgOwn (el_lst eds_nil)) (xr_seq (xd_asg (d := .int (i0 : Int)) (ed_var rfl)) (xr_seq1 (xr_wh L)))⟩
    · rw [sti, sti] at L
      exact ⟨_, xr_seq (xd_asgOwn (el_lst eds_nil)) (xr_seq (xd_asg (d := .int (i0 : Int)) (ed_var rfl)) (xr_seq (xd_wh L) (xr_seq1 (xr_ifT (et_is' (et_test (ed_op (ed_var rfl) (ed_cb (eds_cons (ed_var rfl) eds_nil) cd_lenL) rd_eqI)) (decide_eq_true (by rw [List.length_map]))) xr_raise))))⟩
end
end LM

set_option Elab.async false
set_option linter.all false
set_option maxRecDepth 100000
set_option maxHeartbeats 4000000
namespace LM
open PySem PySem.Spec PyProof.Rows L2 Evl
/-! ### read_from -/
abbrev sReadFrom : Stmt := topS 16
abbrev nReadFrom : List Str := ["words", "at", "deep", "lefts", "middle", "rights", "end"]
theorem scReadFrom : FnScope nReadFrom ["words", "at", "deep"] (defScope sReadFrom) := ⟨rfl, rfl, rfl, by decide +kernel, rfl, by decide +kernel, by decide +kernel⟩
section
variable {P : Program} {w : World} {K : PySem.W.Frag} {mg : Str → Option Value} {base : Heap} {f f2 : Addr} {fd fd2 : FuncData} {k j : Nat} {cNoText : Addr}
theorem has_read_from1 (B : BI mg) (c_LONGEST : ∃ tk, mg "LONGEST" = some (.int 12 tk)) (T_NoText : XCls K mg "NoText" cNoText) (F : Fun K "read_from" "read_from" sReadFrom f fd) (b : Binds K fd ["words", "at", "deep"] []) (hm : mg "read_from" = some (.ref f)) {N : Nat}
    (h_read_games : HasX P w K mg base k "read_games" (SpX K (RGames cNoText N))) : HasX P w K mg base (k + 1) "read_from" (SpX K (RFrom cNoText (N + 1))) := by
  refine hasX_of F b hm scReadFrom (by decide) (fun ds r h => by obtain ⟨_, _, _, rfl, _⟩ := h; rfl) (fun cdv A outer s H E hr => ⟨_, (pss_cons (ps_if (pw_or (pt_cmpR op_gt (pv 2) (pe_const c_LONGEST (by rfl)) (nomark _)) (pw_or1 (pt_cmpR (op_neK K rfl (hu64 hr)) (pe_ix (ix_K K rfl) (pv 0) (pv 1) (fun _ _ => rfl)) pe_str (nomark _)))).pt (pss_one (ps_raiseC rfl (takes_of rfl rfl rfl rfl) T_NoText (by rfl))) pss_nil)
    (pss_cons (ps_asg (pe_hs h_read_games (takes_of rfl rfl rfl rfl) hr (by omega) (by rfl) (pa_cons (pv 0) (pa_cons (pe_op (op_addK K rfl) (pv 1) pe_int) (pa_cons pe_str (pa_cons (pe_op (op_addK K rfl) (pv 2) pe_int) pa_nil))))) (pg_tupK K rfl (pg_tup (n := 2) rfl (pgs_cons (pg_name (i := 3) scReadFrom.nd rfl (by first | exact .inl rfl | exact .inr rfl)) (pgs_cons (pg_name (i := 4) scReadFrom.nd rfl (by first | exact .inl rfl | exact .inr rfl)) pgs_nil)))))
    (pss_cons (ps_asg (pe_hs h_read_games (takes_of rfl rfl rfl rfl) hr (by omega) (by rfl) (pa_cons (pv 0) (pa_cons (pv 4) (pa_cons pe_str (pa_cons (pe_op (op_addK K rfl) (pv 2) pe_int) pa_nil))))) (pg_tupK K rfl (pg_tup (n := 2) rfl (pgs_cons (pg_name (i := 5) scReadFrom.nd rfl (by first | exact .inl rfl | exact .inr rfl)) (pgs_cons (pg_name (i := 6) scReadFrom.nd rfl (by first | exact .inl rfl | exact .inr rfl)) pgs_nil)))))
    (pss_one (ps_ret (pe_tup (pa_cons (pe_tup (pa_cons (pv 3) (pa_cons (pv 5) pa_nil))) (pa_cons (pv 6) pa_nil)))))))), fun ds o h => ?_⟩)
  try dsimp only [cxOf, Cx.nox, Cx.wish]
  obtain ⟨ws, i0, g, rfl, hg, hi, hl, rfl⟩ := h
  cases g with
  | zero =>
    refine (show ∃ ρ', XR K _ cNoText _ [some (.list (ws.map PyData.str)), some (.int (i0 : Int)), some (.int (13 - ((0 : Nat) : Int))), none, none, none, none] none ρ' from ?_)
    exact ⟨_, xr_seq1 (xr_ifT (et_orT (et_test (ed_op (ed_var rfl) ed_int rd_gtI)) (by decide)) xr_raise)⟩
  | succ g =>
    obtain ⟨x, c⟩ : ∃ x, ws[i0]? = some x := ⟨_, List.getElem?_eq_getElem hi⟩
    have cd : ws.drop i0 = x :: ws.drop (i0 + 1) := by
      obtain ⟨h1, h2⟩ := List.getElem?_eq_some_iff.mp c
      rw [← h2]
      exact List.drop_eq_getElem_cons h1
    rw [cd]
    have tt := et_or (K := K) (ρ := [some (.list (ws.map PyData.str)), some (.int (i0 : Int)), some (.int (13 - ((g + 1 : Nat) : Int))), none, none, none, none]) (t := tTest (tOp (rI0 fun i j => .bl (decide (i > j))) (tVar 2) (tC (.int 12)))) (u := tTest (tOp (rNeU K) (tOp (rIx K) (tVar 0) (tVar 1)) (tC (.str "[")))) (x := false) (et_is' (et_test (ed_op (ed_var rfl) ed_int rd_gtI)) (decide_eq_false (by omega))) fun _ => et_test (ed_op (ed_op (ed_var (i := 0) rfl) (ed_var (i := 1) rfl) (rd_ixUL (d := .str x) (atI_nat (by rw [List.getElem?_map, c]; rfl)))) ed_str rd_neS)
    rw [Bool.false_or] at tt
    have dp : ((13 - ((g + 1 : Nat) : Int)) + 1) = 13 - (g : Int) := by omega
    unfold rf
    by_cases xe : x = ("[" : Str)
    · rw [if_pos xe]
      have t0 := et_is' (y := false) tt (by simp [xe])
      have c1 : EDs K (tCons (tVar 0) (tCons (tOp (rAddU K) (tVar 1) (tC (.int 1))) (tCons (tC (.str "|")) (tCons (tOp (rAddU K) (tVar 2) (tC (.int 1))) tNil)))) [some (.list (ws.map PyData.str)), some (.int (i0 : Int)), some (.int (13 - ((g + 1 : Nat) : Int))), none, none, none, none] [.list (ws.map PyData.str), .int ((i0 + 1 : Nat) : Int), .str "|", .int (13 - (g : Int))] :=
        eds_cons (ed_var rfl) (eds_cons (ed_is (ed_op (ed_var rfl) ed_int rd_addI) (by congr 1)) (eds_cons ed_str (eds_cons (ed_is (ed_op (ed_var rfl) ed_int rd_addI) (by rw [dp])) eds_nil)))
      cases h1 : rgL (rf g) ("|" : Str) ((ws.drop (i0 + 1)).length + 1) (ws.drop (i0 + 1)) [] with
      | none =>
        refine (show ∃ ρ', XR K _ cNoText _ [some (.list (ws.map PyData.str)), some (.int (i0 : Int)), some (.int (13 - ((g + 1 : Nat) : Int))), none, none, none, none] none ρ' from ?_)
        exact ⟨_, xr_seq (xd_ifF t0 xd_next) (xr_seq1 (xr_asg (er_callS c1 ⟨ws, i0 + 1, g, "|", rfl, by omega, by omega, hl, by rw [h1]⟩)))⟩
      | some q =>
        obtain ⟨ls, r1⟩ := q
        obtain ⟨_, _, ea, il⟩ := rgL_good (rf_good g) _ _ _ _ _ _ h1 rfl
        have at1 := ea.drop.at
        have st1 := xd_unp (K := K) (ω := none) (i := 3) (j := 4) (d := .tuple ls) (d' := .int ((ws.length - r1.length : Nat) : Int)) (ed_callS (E := WE fun cls d _ H => E cls d H) c1 (R := RGames cNoText N) ⟨ws, i0 + 1, g, "|", rfl, by omega, by omega, hl, by rw [h1]⟩)
        have c2 : EDs K (tCons (tVar 0) (tCons (tVar 4) (tCons (tC (.str "]")) (tCons (tOp (rAddU K) (tVar 2) (tC (.int 1))) tNil)))) [some (.list (ws.map PyData.str)), some (.int (i0 : Int)), some (.int (13 - ((g + 1 : Nat) : Int))), some (.tuple ls), some (.int ((ws.length - r1.length : Nat) : Int)), none, none] [.list (ws.map PyData.str), .int ((ws.length - r1.length : Nat) : Int), .str "]", .int (13 - (g : Int))] :=
          eds_cons (ed_var rfl) (eds_cons (ed_var rfl) (eds_cons ed_str (eds_cons (ed_is (ed_op (ed_var rfl) ed_int rd_addI) (by rw [dp])) eds_nil)))
        dsimp only
        cases h2 : rgL (rf g) ("]" : Str) (r1.length + 1) r1 [] with
        | none =>
          refine (show ∃ ρ', XR K _ cNoText _ [some (.list (ws.map PyData.str)), some (.int (i0 : Int)), some (.int (13 - ((g + 1 : Nat) : Int))), none, none, none, none] none ρ' from ?_)
          exact ⟨_, xr_seq (xd_ifF t0 xd_next) (xr_seq st1 (xr_seq1 (xr_asg (er_callS c2 ⟨ws, ws.length - r1.length, g, "]", rfl, by omega, by omega, hl, by rw [at1, h2]⟩))))⟩
        | some q2 =>
          obtain ⟨rs, r2⟩ := q2
          refine (show XD K _ [some (.list (ws.map PyData.str)), some (.int (i0 : Int)), some (.int (13 - ((g + 1 : Nat) : Int))), none, none, none, none] none (.rt (.tuple [.tuple [.tuple ls, .tuple rs], .int ((ws.length - r2.length : Nat) : Int)])) from ?_)
          exact xd_seq (xd_ifF t0 xd_next) (xd_seq st1 (xd_seq (xd_unp (d := .tuple rs) (d' := .int ((ws.length - r2.length : Nat) : Int)) (ed_callS c2 ⟨ws, ws.length - r1.length, g, "]", rfl, by omega, by omega, hl, by rw [at1, h2]⟩)) (xd_ret (ed_tup (eds_cons (ed_tup (eds_cons (ed_var rfl) (eds_cons (ed_var rfl) eds_nil)) (show 2 ≤ 1000 by decide)) (eds_cons (ed_var rfl) eds_nil)) (show 2 ≤ 1000 by decide)))))
    · rw [if_neg xe]
      refine (show ∃ ρ', XR K _ cNoText _ [some (.list (ws.map PyData.str)), some (.int (i0 : Int)), some (.int (13 - ((g + 1 : Nat) : Int))), none, none, none, none] none ρ' from ?_)
      exact ⟨_, xr_seq1 (xr_ifT (et_is' tt (by simp [xe])) xr_raise)⟩
theorem has_read_from (B : BI mg) (c_LONGEST : ∃ tk, mg "LONGEST" = some (.int 12 tk)) (T_NoText : XCls K mg "NoText" cNoText) (F : Fun K "read_from" "read_from" sReadFrom f fd) (b : Binds K fd ["words", "at", "deep"] []) (hm : mg "read_from" = some (.ref f))
    (F2 : Fun K "read_games" "read_games" sReadGames f2 fd2) (b2 : Binds K fd2 ["words", "at", "end", "deep"] []) (hm2 : mg "read_games" = some (.ref f2)) : ∀ N : Nat, HasX P w K mg base (k + 2 * N) "read_from" (SpX K (RFrom cNoText N))
  | 0 => hasX_none F b hm fun ds r h => by obtain ⟨_, _, _, _, h, _⟩ := h; omega
  | N + 1 => has_read_from1 B c_LONGEST T_NoText F b hm (has_read_games1 B T_NoText F2 b2 hm2 (has_read_from B c_LONGEST T_NoText F b hm F2 b2 hm2 N))
end
end LM

set_option Elab.async false
set_option linter.all false
set_option maxRecDepth 100000
set_option maxHeartbeats 4000000
namespace LM
open PySem PySem.Spec PyProof.Rows L2 Evl
theorem jn_words : ∀ ws : List Str, ws.length ≤ (jn ws).length + 1
  | [] => Nat.zero_le _
  | [x] => by simp
  | x :: y :: ws => by
    have ih := jn_words (y :: ws)
    show _ ≤ (x ++ (" " : Str) ++ jn (y :: ws)).length + 1
    have e : (" " : Str).length = 1 := rfl
    rw [Str.length_append, Str.length_append, e]
    simp only [List.length_cons] at ih ⊢
    omega
theorem jn_split (t : Str) : jn (Txt.split t " ") = t := StrLaws.join_split t " "
theorem split_few (t : Str) : (Txt.split t " ").length ≤ t.length + 1 := by
  have := jn_words (Txt.split t " ")
  rwa [jn_split] at this
def readF (t : Str) : Option D := match rf 13 (Txt.split t " ") with
  | none => none
  | some (d, _) => if okG 13 d = true ∧ jn (wordsF 13 d) = t then some d else none
def RRead (cNoText : Addr) (ds : List D) (o : Res) : Prop := ∃ t : Str, ds = [.str t] ∧ t.length ≤ 39000 ∧ o = match readF t with
  | none => .inr cNoText
  | some d => .inl d
theorem readF_ok {t : Str} {d : D} (h : readF t = some d) : okG 13 d = true ∧ jn (wordsF 13 d) = t ∧ sz d ≤ t.length + 1 := by
  unfold readF at h
  split at h
  · cases h
  · rename_i d' r e
    split at h
    · rename_i c
      cases h
      have := (rf_good 13 _ _ _ e).1.len
      have := split_few t
      exact ⟨c.1, c.2, by omega⟩
    · cases h
/-! ### read -/
abbrev sRead : Stmt := topS 17
abbrev nRead : List Str := ["text", "found", "end"]
theorem scRead : FnScope nRead ["text"] (defScope sRead) := ⟨rfl, rfl, rfl, by decide +kernel, rfl, by decide +kernel, by decide +kernel⟩
section
variable {P : Program} {w : World} {K : PySem.W.Frag} {mg : Str → Option Value} {base : Heap} {f : Addr} {fd : FuncData} {k j : Nat} {cNoText : Addr}
theorem has_read (B : BI mg) (T_NoText : XCls K mg "NoText" cNoText) (F : Fun K "read" "read" sRead f fd) (b : Binds K fd ["text"] []) (hm : mg "read" = some (.ref f)) (h_is_game : Has P w K mg base k "is_game" (SpR K RIs)) (h_game_words : Has P w K mg base k "game_words" (SpR K (RWords 14)))
    (h_read_from : HasX P w K mg base k "read_from" (SpX K (RFrom cNoText 14))) : HasX P w K mg base (k + 1) "read" (SpX K (RRead cNoText)) := by
  refine hasX_of F b hm scRead (by decide) (fun ds r h => by obtain ⟨_, rfl, _⟩ := h; rfl) (fun cdv A outer s H E hr => ⟨_, (pss_cons (ps_if (pt_not (pt_val (pe_callB (call_isiK' K rfl) (by rfl) B.isinstance boot_isinstance (pa_cons (pv 0) (pa_cons (pe_bltn (v := .ty "str") (by rfl) B.str boot_str rfl) pa_nil))))) (pss_one (ps_raiseC rfl (takes_of rfl rfl rfl rfl) T_NoText (by rfl))) pss_nil)
    (pss_cons (ps_asg (pe_hs h_read_from (takes_of rfl rfl rfl rfl) hr (by omega) (by rfl) (pa_cons (pe_split (pv 0) pe_str) (pa_cons pe_int (pa_cons pe_int pa_nil)))) (pg_tupK K rfl (pg_tup (n := 2) rfl (pgs_cons (pg_name (i := 1) scRead.nd rfl (by first | exact .inl rfl | exact .inr rfl)) (pgs_cons (pg_name (i := 2) scRead.nd rfl (by first | exact .inl rfl | exact .inr rfl)) pgs_nil)))))
    (pss_cons (ps_if (pw_or (pt_not (pt_val (pe_h h_is_game hr (by omega) (by rfl) (pa_cons (pv 1) pa_nil)))) (pw_or1 (pt_cmpR (op_neK K rfl (hu64 hr)) (pe_joinK K rfl pe_str (pe_h h_game_words hr (by omega) (by rfl) (pa_cons (pv 1) pa_nil))) (pv 0) (nomark _)))).pt (pss_one (ps_raiseC rfl (takes_of rfl rfl rfl rfl) T_NoText (by rfl))) pss_nil)
    (pss_one (ps_ret (pv 1)))))), fun ds o h => ?_⟩)
  try dsimp only [cxOf, Cx.nox, Cx.wish]
  obtain ⟨t, rfl, hz, rfl⟩ := h
  have ts : ET K (tNot (tB (tCB (rIsi K) (tCons (tVar 0) (tCons (tC (.ty "str")) tNil))))) [some (.str t), none, none] false := et_is' (et_not (et_B (ed_isi (ed_var rfl) (b := true) (by decide +kernel : kitB "str" "str" = some true)))) rfl
  have few := split_few t
  have pos := split_pos t " "
  have c1 : EDs K (tCons (tM1 rSplit (tVar 0) (tC (.str " "))) (tCons (tC (.int 0)) (tCons (tC (.int 0)) tNil))) [some (.str t), none, none] [.list ((Txt.split t " ").map PyData.str), .int 0, .int 0] :=
    eds_cons (ed_el (el_split (ed_var rfl) ed_str rfl (by omega))) (eds_cons ed_int (eds_cons ed_int eds_nil))
  cases h1 : rf 13 (Txt.split t " ") with
  | none =>
    have e : readF t = none := by unfold readF; rw [h1]
    rw [e]
    refine (show ∃ ρ', XR K _ cNoText _ [some (.str t), none, none] none ρ' from ?_)
    exact ⟨_, xr_seq (xd_ifF ts xd_next) (xr_seq1 (xr_asg (er_callS c1 ⟨Txt.split t " ", 0, 13, rfl, by omega, by omega, by omega, by rw [List.drop_zero, h1]⟩)))⟩
  | some q =>
    obtain ⟨d, r⟩ := q
    have zd : sz d ≤ t.length + 1 := by
      have := (rf_good 13 _ _ _ h1).1.len
      omega
    have st1 := xd_unp (K := K) (ω := none) (i := 1) (j := 2) (d := d) (d' := .int (((Txt.split t " ").length - r.length : Nat) : Int)) (ed_callS (E := WE fun cls d _ H => E cls d H) c1 (R := RFrom cNoText 14) ⟨Txt.split t " ", 0, 13, rfl, by omega, by omega, by omega, by rw [List.drop_zero, h1]⟩)
    have tg : ET K (tNot (tB (tCall (SpR K RIs) [] E0 (tCons (tVar 1) tNil)))) [some (.str t), some d, some (.int (((Txt.split t " ").length - r.length : Nat) : Int))] (!okG 13 d) := et_not (et_B (ed_call (eds_cons (ed_var rfl) eds_nil) ⟨d, rfl, by omega, rfl⟩))
    have e : readF t = if okG 13 d = true ∧ jn (wordsF 13 d) = t then some d else none := by unfold readF; rw [h1]
    rw [e]
    by_cases ok : okG 13 d = true
    · have l1 := words_len 13 d
      have tw := et_or (K := K) (ρ := [some (.str t), some d, some (.int (((Txt.split t " ").length - r.length : Nat) : Int))]) (x := false) (et_is' tg (by rw [ok]; rfl)) fun _ => et_test (ed_op (tb := tVar 0) (ed_join (to := tC (.str " ")) (te := tCall (SpR K (RWords 14)) [] E0 (tCons (tVar 1) tNil)) (ys := wordsF 13 d) ed_str (ed_call (eds_cons (ed_var rfl) eds_nil) ⟨d, 13, rfl, by decide, ok, by omega, rfl⟩) rfl (by rw [jn_sum l1.2, show (" " : Str).length = 1 from rfl]; omega)) (ed_var rfl) rd_neS)
      rw [Bool.false_or, txt_jn] at tw
      by_cases hj : jn (wordsF 13 d) = t
      · rw [if_pos ⟨ok, hj⟩]
        refine (show XD K _ [some (.str t), none, none] none (.rt d) from ?_)
        exact xd_seq (xd_ifF ts xd_next) (xd_seq st1 (xd_seq (xd_ifF (et_is' tw (by simp [hj])) xd_next) (xd_ret (ed_var rfl))))
      · rw [if_neg fun h => hj h.2]
        refine (show ∃ ρ', XR K _ cNoText _ [some (.str t), none, none] none ρ' from ?_)
        exact ⟨_, xr_seq (xd_ifF ts xd_next) (xr_seq st1 (xr_seq1 (xr_ifT (et_is' tw (by simp [hj])) xr_raise)))⟩
    · rw [if_neg fun h => ok h.1]
      refine (show ∃ ρ', XR K _ cNoText _ [some (.str t), none, none] none ρ' from ?_)
      exact ⟨_, xr_seq (xd_ifF ts xd_next) (xr_seq st1 (xr_seq1 (xr_ifT (et_orT tg (by simp [ok])) xr_raise)))⟩
end
end LM

set_option Elab.async false
set_option linter.all false
set_option maxRecDepth 100000
set_option maxHeartbeats 4000000
namespace LM
open PySem PySem.Spec PyProof.Rows L2 Evl
/-! ### a text, changed -/
def wt : List Str → Nat
  | [] => 0
  | w :: ws => w.length + 1 + wt ws
theorem wt_app : ∀ xs ys : List Str, wt (xs ++ ys) = wt xs + wt ys
  | [], ys => by simp [wt]
  | x :: xs, ys => by rw [List.cons_append, wt, wt, wt_app xs ys]; omega
theorem wt_cut (ws : List Str) (a : Nat) : wt (ws.take a) + wt (ws.drop a) = wt ws := by
  rw [← wt_app, List.take_append_drop]
theorem wt_take (ws : List Str) (a : Nat) : wt (ws.take a) ≤ wt ws := by have := wt_cut ws a; omega
theorem jn_wt : ∀ ws : List Str, (jn ws).length ≤ wt ws ∧ (ws ≠ [] → (jn ws).length + 1 = wt ws)
  | [] => ⟨Nat.zero_le _, fun h => absurd rfl h⟩
  | [x] => by
    have e : jn [x] = x := rfl
    rw [e]
    simp [wt]
  | x :: y :: ws => by
    have ih := (jn_wt (y :: ws)).2 (by simp)
    have e : jn (x :: y :: ws) = x ++ (" " : Str) ++ jn (y :: ws) := rfl
    have e1 : (" " : Str).length = 1 := rfl
    rw [e, wt, Str.length_append, Str.length_append, e1]
    exact ⟨by omega, fun _ => by omega⟩
theorem wt_split (t : Str) : wt (Txt.split t " ") = t.length + 1 := by
  have h := (jn_wt (Txt.split t " ")).2 (fun e => by have := split_pos t " "; rw [e] at this; simp at this)
  rw [jn_split] at h
  exact h.symm
theorem wt_sum : ∀ ws : List Str, (ws.map (·.length)).sum + ws.length * (" " : Str).length = wt ws
  | [] => rfl
  | w :: ws => by
    have := wt_sum ws
    have e1 : (" " : Str).length = 1 := rfl
    rw [e1] at this ⊢
    rw [List.map_cons, List.sum_cons, List.length_cons, wt]
    omega
def sgs : Str := " []|(0\n\t"
def sgn (n : Int) : Str := ⟨#[sgs.cps.toList.getD (n / 7 % 8).toNat 0]⟩
def someW : List Str := ["[", "]", "|", "[ | ]", "[ [ | ] | ]", "[ | [ | ] ]", "", "0"]
def oneW (n : Int) : Str := someW.getD (n / 7 % 8).toNat Str.empty
theorem sg_at (n : Int) : atI sgs.cps.toList (n / 7 % 8) = some (sgs.cps.toList.getD (n / 7 % 8).toNat 0) := by
  have h0 := Int.emod_nonneg (n / 7) (show (8 : Int) ≠ 0 by decide)
  have h1 := Int.emod_lt_of_pos (n / 7) (show (0 : Int) < 8 by decide)
  refine atI_z h0 ?_
  have : (n / 7 % 8).toNat < sgs.cps.toList.length := by
    have e : sgs.cps.toList.length = 8 := by decide +kernel
    omega
  rw [List.getD_eq_getElem?_getD, List.getElem?_eq_getElem this]; rfl
theorem one_at (n : Int) : atI (someW.map PyData.str) (n / 7 % 8) = some (.str (oneW n)) ∧ (oneW n).length ≤ 11 := by
  have h0 := Int.emod_nonneg (n / 7) (show (8 : Int) ≠ 0 by decide)
  have h1 := Int.emod_lt_of_pos (n / 7) (show (0 : Int) < 8 by decide)
  have lt : (n / 7 % 8).toNat < someW.length := by show _ < 8; omega
  have m : oneW n ∈ someW := by
    unfold oneW
    rw [List.getD_eq_getElem?_getD, List.getElem?_eq_getElem lt]
    exact List.getElem_mem lt
  refine ⟨atI_z h0 ?_, ?_⟩
  · unfold oneW
    rw [List.getElem?_map, List.getD_eq_getElem?_getD, List.getElem?_eq_getElem lt]; rfl
  · have : (someW.all fun w => decide (w.length ≤ 11)) = true := by decide +kernel
    exact of_decide_eq_true (List.all_eq_true.mp this _ m)
def chW (ws : List Str) (n : Int) : List Str :=
  let a := (n / 8 % (ws.length : Int)).toNat
  if n % 8 = 3 then ws.take a ++ ws.drop (a + 1)
  else if n % 8 = 4 then ws.take a ++ (ws.drop a).take 1 ++ ws.drop a
  else if n % 8 = 5 then ws.take a ++ ((ws.drop (a + 1)).take 1 ++ (ws.drop a).take 1) ++ ws.drop (a + 2)
  else ws.take a ++ [oneW n] ++ ws.drop (a + 1)
def chS (t : Str) (n : Int) : Str :=
  let p := n / 8 % ((t.length : Int) + 1)
  if n % 8 = 0 then Txt.slice t none (some p) ++ Txt.slice t (some (p + 1)) none
  else Txt.slice t none (some p) ++ sgn n ++ Txt.slice t (some (p + n % 8 - 1)) none
def changed (t : Str) (n : Int) : Str := if n % 8 < 3 then chS t n else jn (chW (Txt.split t " ") n)
theorem chW_wt (ws : List Str) (n : Int) : wt (chW ws n) ≤ 2 * wt ws + 12 := by
  unfold chW
  dsimp only
  generalize (n / 8 % (ws.length : Int)).toNat = a
  have c0 := wt_cut ws a
  have c1 := wt_cut ws (a + 1)
  have c2 := wt_cut (ws.drop (a + 1)) 1
  have c3 := wt_cut (ws.drop a) 1
  rw [List.drop_drop] at c2
  have o := (one_at n).2
  split
  · rw [wt_app]
    have := wt_take ws a
    omega
  · split
    · rw [wt_app, wt_app]; omega
    · split
      · rw [wt_app, wt_app, wt_app, show a + 2 = a + 1 + 1 from rfl]; omega
      · rw [wt_app, wt_app]
        show _ + ((oneW n).length + 1 + 0) + _ ≤ _
        omega
theorem changed_len (t : Str) (n : Int) : (changed t n).length ≤ 2 * t.length + 20 := by
  unfold changed
  split
  · unfold chS
    dsimp only
    have s1 : (sgn n).length = 1 := rfl
    split
    · rw [Str.length_append]
      have := Txt.slice_le t none (some (n / 8 % ((t.length : Int) + 1)))
      have := Txt.slice_le t (some (n / 8 % ((t.length : Int) + 1) + 1)) none
      omega
    · rw [Str.length_append, Str.length_append]
      have := Txt.slice_le t none (some (n / 8 % ((t.length : Int) + 1)))
      have := Txt.slice_le t (some (n / 8 % ((t.length : Int) + 1) + n % 8 - 1)) none
      omega
  · have h1 := (jn_wt (chW (Txt.split t " ") n)).1
    have h2 := chW_wt (Txt.split t " ") n
    rw [wt_split] at h2
    omega
def RChanged (ds : List D) (r : D) : Prop := ∃ (t : Str) (n : Int), ds = [.str t, .int n] ∧ 0 ≤ n ∧ t.length ≤ 20000 ∧ r = .str (changed t n)
theorem cut_map {α β : Type} (g : α → β) (xs : List α) (lo hi : Option Int) : cut (xs.map g) lo hi = (cut xs lo hi).map g := by
  unfold cut
  rw [List.length_map, List.map_take, List.map_drop]
section
variable {K : PySem.W.Frag}
theorem ed_jnL {ρ : Rho} {te : TE} {ys : List Str} {n : Nat} (h : ED K te ρ (.list (ys.map PyData.str))) (hz : wt ys ≤ n) (hn : n ≤ 1000000) : ED K (tM1 (rJoin K) (tC (.str " ")) te) ρ (.str (jn ys)) :=
  ed_is (ed_join (ys := ys) ed_str h rfl (by rw [wt_sum]; omega)) (by rw [txt_jn])
theorem ed_catW {ρ : Rho} {ta tb : TE} {xs ys : List Str} (ha : ED K ta ρ (.list (xs.map PyData.str))) (hb : ED K tb ρ (.list (ys.map PyData.str))) (hz : xs.length + ys.length ≤ 100000) : ED K (tOp (rAddU K) ta tb) ρ (.list ((xs ++ ys).map PyData.str)) :=
  ed_is (ed_el (el_op ha hb (rl_addL (by rw [List.length_map, List.length_map]; exact hz)))) (by rw [List.map_append])
theorem ed_cutW {ρ : Rho} {te : TE} {tl th : TO} {xs : List Str} {lo hi : Option Int} (h : ED K te ρ (.list (xs.map PyData.str))) (h1 : EO K tl ρ lo) (h2 : EO K th ρ hi) : ED K (tSl (rSlU K) te tl th) ρ (.list ((cut xs lo hi).map PyData.str)) :=
  ed_is (ed_el (el_slUL h h1 h2)) (by rw [cut_map])
end
end LM

set_option Elab.async false
set_option linter.all false
set_option maxRecDepth 100000
set_option maxHeartbeats 4000000
namespace LM
open PySem PySem.Spec PyProof.Rows L2 Evl
/-! ### what is written is read -/
def okw (w : Str) : Prop := w = ("[" : Str) ∨ w = ("|" : Str) ∨ w = ("]" : Str)
theorem words_okw : ∀ (f : Nat) (d : D), ∀ w ∈ wordsF f d, okw w
  | 0, d, w, h => by simp [wordsF] at h
  | f + 1, d, w, h => by
    have row : ∀ l : List D, w ∈ l.flatMap (wordsF f) → okw w := fun l hw => by
      obtain ⟨x, _, hx⟩ := List.mem_flatMap.mp hw
      exact words_okw f x w hx
    unfold wordsF at h
    split at h
    · simp only [List.mem_append, List.mem_singleton] at h
      rcases h with (((h | h) | h) | h) | h
      · exact .inl h
      · exact row _ h
      · exact .inr (.inl h)
      · exact row _ h
      · exact .inr (.inr h)
    · cases h
theorem split_jn {ws : List Str} (hne : ws ≠ []) (h : ∀ w ∈ ws, okw w) : Txt.split (jn ws) " " = ws := by
  rw [← txt_jn]
  refine TL.split_join (s := 32) (S := []) (by decide +kernel) (by decide +kernel) hne fun p hp => ?_
  rcases h p hp with e | e | e
  · rw [e]; decide +kernel
  · rw [e]; decide +kernel
  · rw [e]; decide +kernel
theorem rgL_row {f : Nat} (ih : ∀ (d : D) (ws : List Str), okG f d = true → rf f (wordsF f d ++ ws) = some (d, ws)) {e : Str} (he : e ≠ ("[" : Str)) (ws : List Str) : ∀ (l : List D) (n : Nat) (acc : List D), (∀ x ∈ l, okG f x = true) → (l.flatMap (wordsF f) ++ e :: ws).length < n → rgL (rf f) e n (l.flatMap (wordsF f) ++ e :: ws) acc = some (acc ++ l, ws)
  | [], 0, acc, _, hn => absurd hn (Nat.not_lt_zero _)
  | [], n + 1, acc, _, _ => by
    show rgL (rf f) e (n + 1) (e :: ws) acc = _
    unfold rgL
    rw [if_pos rfl, List.append_nil]
  | x :: l, 0, acc, _, hn => absurd hn (Nat.not_lt_zero _)
  | x :: l, n + 1, acc, ok, hn => by
    have okx := ok x List.mem_cons_self
    obtain ⟨g, rfl⟩ : ∃ g, f = g + 1 := by
      cases f with
      | zero => cases okx
      | succ g => exact ⟨g, rfl⟩
    have hx := ih x (l.flatMap (wordsF (g + 1)) ++ e :: ws) okx
    obtain ⟨u, eu⟩ : ∃ u, wordsF (g + 1) x = ("[" : Str) :: u := by
      obtain ⟨a, b, rfl⟩ := okG_shape okx
      exact ⟨_, rfl⟩
    rw [List.flatMap_cons, List.append_assoc] at hn ⊢
    have step := rgL_row ih he ws l n (acc ++ [x]) (fun y hy => ok y (List.mem_cons_of_mem _ hy)) (by rw [eu] at hn; simp only [List.length_append, List.length_cons] at hn ⊢; omega)
    rw [eu] at hx ⊢
    rw [List.cons_append] at hx ⊢
    unfold rgL
    rw [if_neg (Ne.symm he), hx]
    show rgL (rf (g + 1)) e n (l.flatMap (wordsF (g + 1)) ++ e :: ws) (acc ++ [x]) = _
    rw [step, List.append_assoc]; rfl
theorem rf_words : ∀ (f : Nat) (d : D) (ws : List Str), okG f d = true → rf f (wordsF f d ++ ws) = some (d, ws)
  | 0, d, ws, h => by cases h
  | f + 1, d, ws, h => by
    obtain ⟨a, b, rfl⟩ := okG_shape h
    obtain ⟨oa, ob⟩ := okG_row h
    have e1 : wordsF (f + 1) (.tuple [.tuple a, .tuple b]) ++ ws = ("[" : Str) :: (a.flatMap (wordsF f) ++ ("|" : Str) :: (b.flatMap (wordsF f) ++ ("]" : Str) :: ws)) := by
      simp [wordsF]
    rw [e1]
    unfold rf
    rw [if_pos rfl, rgL_row (rf_words f) (by decide +kernel) _ a _ [] oa (Nat.lt_succ_self _)]
    dsimp only
    rw [rgL_row (rf_words f) (by decide +kernel) _ b _ [] ob (Nat.lt_succ_self _)]
    rfl
theorem readF_words {d : D} (ok : okG 13 d = true) : readF (jn (wordsF 13 d)) = some d := by
  unfold readF
  rw [split_jn (words_ne ok) (words_okw 13 d)]
  have := rf_words 13 d [] ok
  rw [List.append_nil] at this
  rw [this]
  exact if_pos ⟨ok, rfl⟩
/-! ### a deep one -/
def nestD : Nat → D
  | 0 => .tuple [.tuple [], .tuple []]
  | k + 1 => .tuple [.tuple [nestD k], .tuple []]
def nestW : Nat → List Str
  | 0 => ["[", "|", "]"]
  | k + 1 => ("[" : Str) :: (nestW k ++ ([("|" : Str), ("]" : Str)] : List Str))
theorem nest_words : ∀ k f, k < f → wordsF f (nestD k) = nestW k
  | _, 0, h => absurd h (Nat.not_lt_zero _)
  | 0, f + 1, _ => rfl
  | k + 1, f + 1, h => by
    have := nest_words k f (by omega)
    simp [wordsF, nestD, nestW, this]
theorem nest_len : ∀ k, (nestW k).length = 3 * k + 3
  | 0 => rfl
  | k + 1 => by
    have := nest_len k
    simp only [nestW, List.length_cons, List.length_append, this, List.length_nil]; omega
theorem nest_okw : ∀ k, ∀ w ∈ nestW k, okw w
  | 0, w, h => by
    simp only [nestW, List.mem_cons, List.not_mem_nil, or_false] at h
    exact h
  | k + 1, w, h => by
    simp only [nestW, List.mem_cons, List.mem_append, List.not_mem_nil, or_false] at h
    rcases h with h | h | h | h
    · exact .inl h
    · exact nest_okw k w h
    · exact .inr (.inl h)
    · exact .inr (.inr h)
theorem nest_ne (k : Nat) : nestW k ≠ [] := by cases k <;> simp [nestW]
theorem nest_none : ∀ f k ws, f ≤ k → rf f (nestW k ++ ws) = none
  | 0, k, ws, _ => by cases nestW k ++ ws <;> rfl
  | f + 1, 0, ws, h => absurd h (by omega)
  | f + 1, k + 1, ws, h => by
    have ih := nest_none f k (([("|" : Str), ("]" : Str)] : List Str) ++ ws) (by omega)
    obtain ⟨u, eu⟩ : ∃ u, nestW k = ("[" : Str) :: u := by cases k <;> exact ⟨_, rfl⟩
    have e : nestW (k + 1) ++ ws = ("[" : Str) :: (nestW k ++ (([("|" : Str), ("]" : Str)] : List Str) ++ ws)) := by simp [nestW]
    rw [e]
    unfold rf
    rw [if_pos rfl]
    rw [eu, List.cons_append] at ih ⊢
    unfold rgL
    rw [if_neg (by decide +kernel), ih]
theorem rep_right (z : Str) : ∀ k, rep k z ++ z = rep (k + 1) z
  | 0 => by
    show Str.empty ++ z = z ++ Str.empty
    rw [Str.empty_append, Str.append_empty]
  | k + 1 => by
    show z ++ rep k z ++ z = z ++ rep (k + 1) z
    rw [Str.append_assoc, rep_right z k]
theorem nest_text : ∀ k, rep k "[ " ++ "[ | ]" ++ rep k " | ]" = jn (nestW k)
  | 0 => by decide +kernel
  | k + 1 => by
    have ih := nest_text k
    have e : nestW (k + 1) = [("[" : Str)] ++ nestW k ++ [("|" : Str), "]"] := rfl
    rw [e, jn_app (xs := [("[" : Str)] ++ nestW k) (by simp) (by simp), jn_app (xs := [("[" : Str)]) (by simp) (nest_ne k), ← ih]
    rw [← rep_right " | ]" k]
    show ("[ " : Str) ++ rep k "[ " ++ "[ | ]" ++ (rep k " | ]" ++ " | ]") = jn [("[" : Str)] ++ " " ++ (rep k "[ " ++ "[ | ]" ++ rep k " | ]") ++ " " ++ jn [("|" : Str), "]"]
    have e1 : jn [("[" : Str)] ++ (" " : Str) = "[ " := by decide +kernel
    have e2 : (" " : Str) ++ jn [("|" : Str), "]"] = " | ]" := by decide +kernel
    rw [e1]
    simp only [Str.append_assoc]
    rw [e2]
theorem nest_ok : ∀ f k, k < f → okG f (nestD k) = true
  | 0, _, h => absurd h (Nat.not_lt_zero _)
  | f + 1, 0, _ => rfl
  | f + 1, k + 1, h => by
    have := nest_ok f k (by omega)
    simp [okG, nestD, okRow, this]
    exact ⟨rfl, rfl⟩
theorem readF_nest (k : Nat) : readF (jn (nestW k)) = if k < 13 then some (nestD k) else none := by
  by_cases h : k < 13
  · rw [if_pos h, ← nest_words k 13 h]
    exact readF_words (nest_ok 13 k h)
  · rw [if_neg h]
    unfold readF
    rw [split_jn (nest_ne k) (nest_okw k)]
    have := nest_none 13 k [] (by omega)
    rw [List.append_nil] at this
    rw [this]
def foundD (t : Str) : D := (readF t).getD .none
def RFound (ds : List D) (r : D) : Prop := ∃ t : Str, ds = [.str t] ∧ t.length ≤ 39000 ∧ r = foundD t
/-! ### _law_none -/
abbrev sLawNone : Stmt := topS 25
abbrev nLawNone : List Str := ["_law_text"]
theorem scLawNone : FnScope nLawNone ["_law_text"] (defScope sLawNone) := ⟨rfl, rfl, rfl, by decide +kernel, rfl, by decide +kernel, by decide +kernel⟩
section
variable {P : Program} {w : World} {K : PySem.W.Frag} {mg : Str → Option Value} {base : Heap} {f : Addr} {fd : FuncData} {k j : Nat} {cNoText : Addr}
def RNone (ds : List D) (r : D) : Prop := ∃ t : Str, ds = [.str t] ∧ t.length ≤ 39000 ∧ r = .bool (readF t).isNone
theorem has__law_none (B : BI mg) (T_NoText : XCls K mg "NoText" cNoText) (self : PySem.W.exmOne K (.ref cNoText) (.ref cNoText) = some true) (F : Fun K "_law_none" "_law_none" sLawNone f fd) (b : Binds K fd ["_law_text"] []) (hm : mg "_law_none" = some (.ref f)) (h_read : HasX P w K mg base k "read" (SpX K (RRead cNoText))) : Has P w K mg base (k + 1) "_law_none" (SpR K RNone) := by
  refine has_of F b hm scLawNone (by decide) (fun ds r h => by obtain ⟨_, rfl, _⟩ := h; rfl) (fun cdv A outer s H E hr => ⟨_, (pss_cons (ps_try_only rfl rfl ⟨rfl, by decide, .inl T_NoText.gC⟩ (Wout := fun _ _ _ _ => False) takes0 (fun W pn xe tk _ => (pss_one (ps_expr (pe_hs h_read tk hr (by omega) (by rfl) (pa_cons (pv 0) pa_nil))))) (fun a oe cls d pn hz hf => (pss_one (ps_ret pe_bl))))
    (pss_one (ps_ret pe_bl))), fun ds r h => ?_⟩)
  try dsimp only [cxOf, Cx.nox, Cx.wish]
  obtain ⟨t, rfl, hz, rfl⟩ := h
  cases hq : readF t with
  | some d => exact xd_seq (xd_tryV fun W => xd_drop (ed_callS (d := d) (eds_cons (ed_var rfl) eds_nil) ⟨t, rfl, hz, by rw [hq]⟩)) (xd_ret ed_bl)
  | none => exact xd_seq_rt (xd_tryX (ρ' := [some (.str t)]) (fun W => xr_drop (er_callS (eds_cons (ed_var rfl) eds_nil) ⟨t, rfl, hz, by rw [hq]⟩)) self (fun a => xd_ret ed_bl))
end
end LM

set_option Elab.async false
set_option linter.all false
set_option maxRecDepth 100000
set_option maxHeartbeats 4000000
namespace LM
open PySem PySem.Spec PyProof.Rows L2 Evl
/-! ### the texts of moves -/
theorem words_up : ∀ (f : Nat) (d : D), okG f d = true → ∀ g, f ≤ g → wordsF g d = wordsF f d
  | 0, d, h, _, _ => by cases h
  | f + 1, d, h, 0, hg => absurd hg (by omega)
  | f + 1, d, h, g + 1, hg => by
    obtain ⟨a, b, rfl⟩ := okG_shape h
    obtain ⟨oa, ob⟩ := okG_row h
    have row : ∀ l : List D, (∀ x ∈ l, okG f x = true) → l.flatMap (wordsF g) = l.flatMap (wordsF f) := fun l hl => by
      induction l with
      | nil => rfl
      | cons x l ih => rw [List.flatMap_cons, List.flatMap_cons, words_up f x (hl x List.mem_cons_self) g (by omega), ih fun y hy => hl y (List.mem_cons_of_mem _ hy)]
    simp only [wordsF, row a oa, row b ob]
theorem jn_flatten : ∀ L : List (List Str), (∀ l ∈ L, l ≠ []) → jn (L.map jn) = jn L.flatten
  | [], _ => rfl
  | [l], _ => by
    show jn l = jn (l ++ [])
    rw [List.append_nil]
  | l :: m :: L, h => by
    have ih := jn_flatten (m :: L) fun x hx => h x (List.mem_cons_of_mem _ hx)
    have hl := h l List.mem_cons_self
    have hm := h m (List.mem_cons_of_mem _ List.mem_cons_self)
    have hf : (m :: L).flatten ≠ [] := by
      intro e
      rw [List.flatten_cons] at e
      exact hm (List.append_eq_nil_iff.mp e).1
    rw [List.flatten_cons, jn_app hl hf, ← ih]
    rfl
/-- the row of a game's words, and of their texts -/
def rowL (W : D → List Str) (a b : List D) : List (List Str) := [[("[" : Str)]] ++ a.map W ++ [[("|" : Str)]] ++ b.map W ++ [[("]" : Str)]]
theorem rowL_flat (W : D → List Str) (a b : List D) : (rowL W a b).flatten = [("[" : Str)] ++ a.flatMap W ++ [("|" : Str)] ++ b.flatMap W ++ [("]" : Str)] := by
  simp [rowL, List.flatMap_def]
theorem rowL_ne {W : D → List Str} {a b : List D} (ha : ∀ x ∈ a, W x ≠ []) (hb : ∀ x ∈ b, W x ≠ []) : ∀ l ∈ rowL W a b, l ≠ [] := by
  intro l hl
  simp only [rowL, List.mem_append, List.mem_singleton, List.mem_map] at hl
  rcases hl with (((h | ⟨x, hx, h⟩) | h) | ⟨x, hx, h⟩) | h
  · rw [h]; simp
  · rw [← h]; exact ha x hx
  · rw [h]; simp
  · rw [← h]; exact hb x hx
  · rw [h]; simp
/-- moves that are games, in any order: what is read -/
theorem rf_any (f : Nat) {a b : List D} (oa : ∀ x ∈ a, okG f x = true) (ob : ∀ x ∈ b, okG f x = true) (ws : List Str) : rf (f + 1) ([("[" : Str)] ++ a.flatMap (wordsF f) ++ [("|" : Str)] ++ b.flatMap (wordsF f) ++ [("]" : Str)] ++ ws) = some (.tuple [.tuple a, .tuple b], ws) := by
  have e1 : [("[" : Str)] ++ a.flatMap (wordsF f) ++ [("|" : Str)] ++ b.flatMap (wordsF f) ++ [("]" : Str)] ++ ws = ("[" : Str) :: (a.flatMap (wordsF f) ++ ("|" : Str) :: (b.flatMap (wordsF f) ++ ("]" : Str) :: ws)) := by simp
  rw [e1]
  unfold rf
  rw [if_pos rfl, rgL_row (rf_words f) (by decide +kernel) _ a _ [] oa (Nat.lt_succ_self _)]
  dsimp only
  rw [rgL_row (rf_words f) (by decide +kernel) _ b _ [] ob (Nat.lt_succ_self _)]
  rfl
def bads : List Str := ["", "[", "]", "[ ]", "[|]", "[ | ] ", " [ | ]", "[  | ]", "[ | | ]", "[ | ] [ | ]", "| [ ]", "[ [ | ] [ | ] | ]", "[ [ | ] ]", "[ | [ ]", "[ | ] ]", "[ [ | [ | ] ] [ | ] | ]", "[ | 0 ]", "( | )"]
def goods : List Str := ["[ | ]", "[ [ | ] | ]", "[ | [ | ] ]", "[ [ | ] [ | [ | ] ] | [ | ] ]", "[ [ [ | ] | ] | ]"]
theorem bads_none : (bads.all fun t => (readF t).isNone) = true := by decide +kernel
theorem goods_read : (goods.all fun t => (readF t).isSome) = true := by decide +kernel
theorem right_none : (readF ("[ | " ++ jn (nestW 12) ++ " ]")).isNone = true := by decide +kernel
theorem nest_last : lastF 13 (nestD 12) = 12 := by decide +kernel
end LM

set_option Elab.async false
set_option linter.all false
set_option maxRecDepth 100000
set_option maxHeartbeats 4000000
namespace LM
open PySem PySem.Spec PyProof.Rows L2 Evl
/-! ### law -/
abbrev sLaw : Stmt := topS 26
abbrev nLaw : List Str := ["_law_script", "_law_game_here", "_law_lefts", "_law_rights", "_law_words", "_law_move", "_law_moves", "_law_other", "_law_long", "_law_k", "_law_bad", "_law_good", "_law_number", "_law_text"]
theorem scLaw : FnScope nLaw ["_law_script"] (defScope sLaw) := ⟨rfl, rfl, rfl, by decide +kernel, rfl, by decide +kernel, by decide +kernel⟩
section
variable {P : Program} {w : World} {K : PySem.W.Frag} {mg : Str → Option Value} {base : Heap} {f : Addr} {fd : FuncData} {k j : Nat} {cNoGame cNoText : Addr}
/-- a game's text -/
def tx (d : D) : Str := jn (wordsF 13 d)
theorem rd_isnotBl {a b : Bool} : RD K (fun x y H Q => ∃ a b, x = .bl a ∧ y = .bl b ∧ Q (.bl (!decide (a = b))) H) (.bool a) (.bool b) (.bool (!decide (a = b))) := fun H Hm x y s hx hy Q q => ⟨a, b, dp_bool hx, dp_bool hy, q _ H Hm (Gr.refl s) (.bl _)⟩
theorem sz_two (a b : List D) : sz (.tuple [.tuple a, .tuple b]) = 3 + szs a + szs b := by
  simp only [sz, szs]; omega
theorem row_text (a b : List D) : (rowL (wordsF 13) a b).map jn = [("[" : Str)] ++ a.map tx ++ [("|" : Str)] ++ b.map tx ++ [("]" : Str)] := by
  have e : ∀ w : Str, jn [w] = w := fun _ => rfl
  have m : ∀ l : List D, (l.map (wordsF 13)).map jn = l.map tx := fun l => by rw [List.map_map]; exact List.map_congr_left fun x _ => rfl
  simp only [rowL, List.map_append, List.map_cons, List.map_nil, e, m]
theorem words_two (f : Nat) (a b : List D) : wordsF (f + 1) (.tuple [.tuple a, .tuple b]) = [("[" : Str)] ++ a.flatMap (wordsF f) ++ [("|" : Str)] ++ b.flatMap (wordsF f) ++ [("]" : Str)] := rfl
theorem row_ok {a b : List D} (oa : ∀ x ∈ a, okG 12 x = true) (ob : ∀ x ∈ b, okG 12 x = true) (hz : szs a + szs b ≤ 2000) :
    jn ((rowL (wordsF 13) a b).map jn) = tx (.tuple [.tuple a, .tuple b]) ∧ wt ((rowL (wordsF 13) a b).map jn) ≤ 5000 ∧
      readF (jn ((rowL (wordsF 13) a b).map jn)) = if okG 13 (.tuple [.tuple a, .tuple b]) = true then some (.tuple [.tuple a, .tuple b]) else none := by
  have ww : ∀ l : List D, (∀ x ∈ l, okG 12 x = true) → l.flatMap (wordsF 13) = l.flatMap (wordsF 12) := fun l hl => by
    induction l with
    | nil => rw [List.flatMap_nil, List.flatMap_nil]
    | cons x l ih => rw [List.flatMap_cons, List.flatMap_cons, words_up 12 x (hl x List.mem_cons_self) 13 (by decide), ih fun y hy => hl y (List.mem_cons_of_mem _ hy)]
  have ne : ∀ l : List D, (∀ x ∈ l, okG 12 x = true) → ∀ x ∈ l, wordsF 13 x ≠ [] := fun l hl x hx => by
    rw [words_up 12 x (hl x hx) 13 (by decide)]
    exact words_ne (hl x hx)
  have e : jn ((rowL (wordsF 13) a b).map jn) = jn ([("[" : Str)] ++ a.flatMap (wordsF 12) ++ [("|" : Str)] ++ b.flatMap (wordsF 12) ++ [("]" : Str)]) := by
    rw [jn_flatten _ (rowL_ne (ne a oa) (ne b ob)), rowL_flat, ww a oa, ww b ob]
  have kw : ∀ x ∈ [("[" : Str)] ++ a.flatMap (wordsF 12) ++ [("|" : Str)] ++ b.flatMap (wordsF 12) ++ [("]" : Str)], okw x := fun x h => by
    have row : ∀ l : List D, x ∈ l.flatMap (wordsF 12) → okw x := fun l hw => by
      obtain ⟨y, _, hy⟩ := List.mem_flatMap.mp hw
      exact words_okw 12 y x hy
    simp only [List.mem_append, List.mem_singleton] at h
    rcases h with (((h | h) | h) | h) | h
    · exact .inl h
    · exact row _ h
    · exact .inr (.inl h)
    · exact row _ h
    · exact .inr (.inr h)
  have ew := words_two 12 a b
  refine ⟨by rw [e, ← ew]; rfl, ?_, ?_⟩
  · have h1 := (jn_wt ((rowL (wordsF 13) a b).map jn)).2 (by simp [rowL])
    rw [e] at h1
    have h2 := jn_len (ws := [("[" : Str)] ++ a.flatMap (wordsF 12) ++ [("|" : Str)] ++ b.flatMap (wordsF 12) ++ [("]" : Str)]) fun x hx => by
      rcases kw x hx with z | z | z <;> rw [z] <;> rfl
    have h3 := flat_len 12 a
    have h4 := flat_len 12 b
    simp only [List.length_append, List.length_singleton] at h2
    omega
  · rw [e]
    unfold readF
    rw [split_jn (by simp) kw]
    have := rf_any 12 oa ob []
    rw [List.append_nil] at this
    rw [this]
    by_cases ok : okG 13 (.tuple [.tuple a, .tuple b]) = true
    · rw [if_pos ok]
      exact if_pos ⟨ok, by rw [← ew]⟩
    · rw [if_neg ok]
      exact if_neg fun h => ok h.1
theorem wordsF_up {f : Nat} {l : List T} (h : ∀ x ∈ l, T.G 3 x) {g : Nat} (hg : 3 < g) : ∀ x ∈ l.map T.data, okG g x = true := fun x hx => by
  obtain ⟨t, ht, rfl⟩ := List.mem_map.mp hx
  exact (h t ht).ok hg
theorem rev_bad {x y : T} {b : List D} (h : T.lt x y = true) : okG 13 (.tuple [.tuple [y.data, x.data], .tuple b]) = false := by
  have e : ascB [y, x] = false := by
    cases c : ascB [y, x] with
    | false => rfl
    | true =>
      have := (ascB_iff _).mp c
      have h2 : T.lt y x = true := by
        simp only [T.Asc, List.pairwise_cons] at this
        exact this.1 x (by simp)
      rw [T.lt_asym h] at h2
      cases h2
  rw [okG_two]
  simp [okRow, ofD_data, e]
theorem nest_step (k : Nat) : ("[ " : Str) ++ jn (nestW k) ++ " | ]" = jn (nestW (k + 1)) := by
  have e : nestW (k + 1) = [("[" : Str)] ++ nestW k ++ [("|" : Str), "]"] := rfl
  rw [e, jn_app (xs := [("[" : Str)] ++ nestW k) (by simp) (by simp), jn_app (xs := [("[" : Str)]) (by simp) (nest_ne k)]
  have e1 : jn [("[" : Str)] ++ (" " : Str) = "[ " := by decide +kernel
  have e2 : (" " : Str) ++ jn [("|" : Str), "]"] = " | ]" := by decide +kernel
  rw [e1]
  simp only [Str.append_assoc]
  rw [e2]
theorem nest_size : ∀ k, sz (nestD k) = 3 * k + 3
  | 0 => rfl
  | k + 1 => by
    have := nest_size k
    simp only [nestD, sz, szs]; omega
theorem bad_at (n : Int) : ∃ s : Str, atI (bads.map PyData.str) (n % 18) = some (.str s) ∧ (readF s).isNone = true ∧ s.length ≤ 39000 := by
  have h0 := Int.emod_nonneg n (show (18 : Int) ≠ 0 by decide)
  have h1 := Int.emod_lt_of_pos n (show (0 : Int) < 18 by decide)
  have lt : (n % 18).toNat < bads.length := by show _ < 18; omega
  refine ⟨bads[(n % 18).toNat], atI_z h0 (by rw [List.getElem?_map, List.getElem?_eq_getElem lt]; rfl), List.all_eq_true.mp bads_none _ (List.getElem_mem lt), ?_⟩
  have : (bads.all fun w => decide (w.length ≤ 39000)) = true := by decide +kernel
  exact of_decide_eq_true (List.all_eq_true.mp this _ (List.getElem_mem lt))
theorem has_law (B : BI mg) (F : Fun K "law" "law" sLaw f fd)
    (h__law_game : Has P w K mg base k "_law_game" (SpR K (RGame 5))) (h__law_mixed : Has P w K mg base k "_law_mixed" (SpR K RMixed)) (h_is_game : Has P w K mg base k "is_game" (SpR K RIs))
    (h_lasting : Has P w K mg base k "lasting" (SpR K (RLast 14))) (h_game_by : Has P w K mg base k "game_by" (SpR K RGameBy))
    (h_written : HasX P w K mg base k "written" (SpX K (RWritten cNoGame))) (h_read : HasX P w K mg base k "read" (SpX K (RRead cNoText))) (h__law_none : Has P w K mg base k "_law_none" (SpR K RNone)) :
    FnOk P w K mg base CX0 (k + 1) f fd ["_law_script"] (SpR K RLaw) := by
  refine fn_of F scLaw (by decide) (fun ds r h => by obtain ⟨_, rfl, _⟩ := h; rfl) (fun cdv A outer s H E hr => ⟨_, (pss_cons (ps_set (i := 1) scLaw.nd rfl (by first | exact .inl rfl | exact .inr rfl) (pe_h h__law_game hr (by omega) (by rfl) (pa_cons (pe_h h__law_mixed hr (by omega) (by rfl) (pa_cons (pv 0) (pa_cons pe_int pa_nil))) (pa_cons pe_int pa_nil))))
    (pss_cons (ps_asg (pv 1) (pg_tupK K rfl (pg_tup (n := 2) rfl (pgs_cons (pg_name (i := 2) scLaw.nd rfl (by first | exact .inl rfl | exact .inr rfl)) (pgs_cons (pg_name (i := 3) scLaw.nd rfl (by first | exact .inl rfl | exact .inr rfl)) pgs_nil)))))
    (pss_cons (ps_set (i := 4) scLaw.nd rfl (by first | exact .inl rfl | exact .inr rfl) (pe_op (op_addK K rfl) (pe_op (op_addK K rfl) (pe_op (op_addK K rfl) (pe_op (op_addK K rfl) (pe_lst (pa_cons pe_str pa_nil)) (pe_lc (own := [("_law_move", 5)]) rfl scLaw.nd (pi_tupK K rfl (pv 2)) (blkOk_by (N := nLaw) (sc := defScope sLaw) (by decide +kernel)) (fun _ _ _ _ _ => (pg_name (i := 5) scLaw.nd rfl (by first | exact .inl rfl | exact .inr rfl))) (fun _ _ _ _ _ => pts_nil) (fun _ _ _ _ _ => (pe_hx h_written hr (by omega) (by rfl) (pa_cons (pv 5) pa_nil))))) (pe_lst (pa_cons pe_str pa_nil))) (pe_lc (own := [("_law_move", 5)]) rfl scLaw.nd (pi_tupK K rfl (pv 3)) (blkOk_by (N := nLaw) (sc := defScope sLaw) (by decide +kernel)) (fun _ _ _ _ _ => (pg_name (i := 5) scLaw.nd rfl (by first | exact .inl rfl | exact .inr rfl))) (fun _ _ _ _ _ => pts_nil) (fun _ _ _ _ _ => (pe_hx h_written hr (by omega) (by rfl) (pa_cons (pv 5) pa_nil))))) (pe_lst (pa_cons pe_str pa_nil))))
    (pss_cons (ps_if (pw_or (pt_cmpR (op_neK K rfl (hu64 hr)) (pe_hx h_written hr (by omega) (by rfl) (pa_cons (pv 1) pa_nil)) (pe_joinK K rfl pe_str (pv 4)) (nomark _)) (pw_or1 (pt_cmpR (op_neK K rfl (hu64 hr)) (pe_hx h_read hr (by omega) (by rfl) (pa_cons (pe_joinK K rfl pe_str (pv 4)) pa_nil)) (pv 1) (nomark _)))).pt (pss_one (ps_ret pe_bl)) pss_nil)
    (pss_cons (ps_if (pw_or (pt_cmpR (op_neK K rfl (hu64 hr)) (pe_h h_game_by hr (by omega) (by rfl) (pa_cons (pe_op (op_addK K rfl) (pe_revT K rfl (pv 2)) (pv 2)) (pa_cons (pe_op (op_mulK K rfl) (pv 3) pe_int) pa_nil))) (pv 1) (nomark _)) (pw_or1 (pt_cmpR (op_neK K rfl (hu64 hr)) (pe_h h_game_by hr (by omega) (by rfl) (pa_cons (pe_tup pa_nil) (pa_cons (pe_tup pa_nil) pa_nil))) (pe_tup (pa_cons (pe_tup pa_nil) (pa_cons (pe_tup pa_nil) pa_nil))) (nomark _)))).pt (pss_one (ps_ret pe_bl)) pss_nil)
    (pss_cons (ps_set (i := 6) scLaw.nd rfl (by first | exact .inl rfl | exact .inr rfl) (pe_op (op_addK K rfl) (pv 2) (pv 3)))
    (pss_cons (ps_if (pw_or (pt_cmpR (op_neK K rfl (hu64 hr)) (pe_h h_lasting hr (by omega) (by rfl) (pa_cons (pv 1) pa_nil)) (pe_callB (cr_maxK K rfl rfl) (by rfl) B.max boot_max (pa_cons (pe_op (op_addK K rfl) (pe_lst (pa_cons pe_int pa_nil)) (pe_lc (own := [("_law_move", 5)]) rfl scLaw.nd (pi_tupK K rfl (pv 6)) (blkOk_by (N := nLaw) (sc := defScope sLaw) (by decide +kernel)) (fun _ _ _ _ _ => (pg_name (i := 5) scLaw.nd rfl (by first | exact .inl rfl | exact .inr rfl))) (fun _ _ _ _ _ => pts_nil) (fun _ _ _ _ _ => (pe_op (op_addK K rfl) pe_int (pe_h h_lasting hr (by omega) (by rfl) (pa_cons (pv 5) pa_nil)))))) pa_nil)) (nomark _)) (pw_or1 (pt_cmpR op_isnot_bl (pe_h h_is_game hr (by omega) (by rfl) (pa_cons (pv 1) pa_nil)) pe_bl (nomark _)))).pt (pss_one (ps_ret pe_bl)) pss_nil)
    (pss_cons (ps_if (pt_cmpR op_gt (pe_callB (call_lenK K rfl) (by rfl) B.len boot_len (pa_cons (pv 2) pa_nil)) pe_int (nomark _)) (pss_cons (ps_set (i := 7) scLaw.nd rfl (by first | exact .inl rfl | exact .inr rfl) (pe_op (op_addK K rfl) (pe_op (op_addK K rfl) (pe_lst (pa_cons pe_str pa_nil)) (pe_lc (own := [("_law_move", 5)]) rfl scLaw.nd (pi_tupK K rfl (pe_revT K rfl (pv 2))) (blkOk_by (N := nLaw) (sc := defScope sLaw) (by decide +kernel)) (fun _ _ _ _ _ => (pg_name (i := 5) scLaw.nd rfl (by first | exact .inl rfl | exact .inr rfl))) (fun _ _ _ _ _ => pts_nil) (fun _ _ _ _ _ => (pe_hx h_written hr (by omega) (by rfl) (pa_cons (pv 5) pa_nil))))) (pe_slice (sl_K K rfl) (pv 4) (po_some (pe_op (op_addK K rfl) (pe_callB (call_lenK K rfl) (by rfl) B.len boot_len (pa_cons (pv 2) pa_nil)) pe_int)) po_none)))
    (pss_one (ps_if (pt_not (pt_val (pe_h h__law_none hr (by omega) (by rfl) (pa_cons (pe_joinK K rfl pe_str (pv 7)) pa_nil)))) (pss_one (ps_ret pe_bl)) pss_nil))) pss_nil)
    (pss_cons (ps_set (i := 8) scLaw.nd rfl (by first | exact .inl rfl | exact .inr rfl) pe_str)
    (pss_cons (ps_for PassesOwn.never rfl (pi_range1 (by rfl) B.range (pa_cons pe_int pa_nil)) (pg_name (i := 9) scLaw.nd rfl (by first | exact .inl rfl | exact .inr rfl)) (pss_one (ps_set (i := 8) scLaw.nd rfl (by first | exact .inl rfl | exact .inr rfl) (pe_op (op_addK K rfl) (pe_op (op_addK K rfl) pe_str (pv 8)) pe_str))))
    (pss_cons (ps_if (pw_or (pt_cmpR (op_neK K rfl (hu64 hr)) (pe_h h_lasting hr (by omega) (by rfl) (pa_cons (pe_hx h_read hr (by omega) (by rfl) (pa_cons (pv 8) pa_nil)) pa_nil)) pe_int (nomark _)) (pw_or (pt_not (pt_val (pe_h h__law_none hr (by omega) (by rfl) (pa_cons (pe_op (op_addK K rfl) (pe_op (op_addK K rfl) pe_str (pv 8)) pe_str) pa_nil)))) (pw_or1 (pt_not (pt_val (pe_h h__law_none hr (by omega) (by rfl) (pa_cons (pe_op (op_addK K rfl) (pe_op (op_addK K rfl) pe_str (pv 8)) pe_str) pa_nil))))))).pt (pss_one (ps_ret pe_bl)) pss_nil)
    (pss_cons (ps_set (i := 10) scLaw.nd rfl (by first | exact .inl rfl | exact .inr rfl) (pe_lst (pa_cons pe_str (pa_cons pe_str (pa_cons pe_str (pa_cons pe_str (pa_cons pe_str (pa_cons pe_str (pa_cons pe_str (pa_cons pe_str (pa_cons pe_str (pa_cons pe_str (pa_cons pe_str pa_nil)))))))))))))
    (pss_cons (ps_expr (pe_bmK K rfl (pe_bm PySem.F.plainAttrs_list PySem.F.slot_list_append PySem.F.type_list_append mt_append (pv 10) (pa_cons pe_str pa_nil))))
    (pss_cons (ps_set (i := 10) scLaw.nd rfl (by first | exact .inl rfl | exact .inr rfl) (pe_op (op_addK K rfl) (pv 10) (pe_lst (pa_cons pe_str (pa_cons pe_str (pa_cons pe_str (pa_cons pe_str (pa_cons pe_str (pa_cons pe_str pa_nil)))))))))
    (pss_cons (ps_set (i := 11) scLaw.nd rfl (by first | exact .inl rfl | exact .inr rfl) (pe_lst (pa_cons pe_str (pa_cons pe_str (pa_cons pe_str (pa_cons pe_str (pa_cons pe_str pa_nil)))))))
    (pss_cons (ps_set (i := 12) scLaw.nd rfl (by first | exact .inl rfl | exact .inr rfl) (pe_h h__law_mixed hr (by omega) (by rfl) (pa_cons (pv 0) (pa_cons pe_int pa_nil))))
    (pss_cons (ps_for PassesOwn.never rfl (pi_range1 (by rfl) B.range (pa_cons pe_int pa_nil)) (pg_name (i := 9) scLaw.nd rfl (by first | exact .inl rfl | exact .inr rfl)) (pss_one (ps_if (pt_not (pt_val (pe_h h__law_none hr (by omega) (by rfl) (pa_cons (pe_ix (ix_K K rfl) (pv 10) (pe_op op_mod (pe_op (op_addK K rfl) (pe_op op_fdiv (pv 12) pe_int) (pe_op (op_mulK K rfl) pe_int (pv 9))) (pe_callB (call_lenK K rfl) (by rfl) B.len boot_len (pa_cons (pv 10) pa_nil))) (fun _ _ => rfl)) pa_nil)))) (pss_one (ps_ret pe_bl)) pss_nil)))
    (pss_one (ps_ret (pe_cmpR (op_eqK K rfl (hu64 hr)) (pe_lc (own := [("_law_text", 13)]) rfl scLaw.nd (pi_listK K rfl (pv 11)) (blkOk_by (N := nLaw) (sc := defScope sLaw) (by decide +kernel)) (fun _ _ _ _ _ => (pg_name (i := 13) scLaw.nd rfl (by first | exact .inl rfl | exact .inr rfl))) (fun _ _ _ _ _ => pts_one (pt_cmpR (op_neK K rfl (hu64 hr)) (pe_hx h_written hr (by omega) (by rfl) (pa_cons (pe_hx h_read hr (by omega) (by rfl) (pa_cons (pv 13) pa_nil)) pa_nil)) (pv 13) (nomark _))) (fun _ _ _ _ _ => (pv 13))) (pe_lst pa_nil) (nomark _))))))))))))))))))))), fun ds r h => ?_⟩)
  try dsimp only [cxOf, Cx.nox, Cx.wish]
  obtain ⟨ns, rfl, rfl⟩ := h
  refine (show XD K _ [some (.list (ns.map PyData.int)), none, none, none, none, none, none, none, none, none, none, none, none, none] none _ from ?_)
  have mix : ∀ {ρ : Rho} {te : TE} {i : Int}, ρ[0]? = some (some (.list (ns.map PyData.int))) → ED K te ρ (.int i) → 0 ≤ i → i ≤ 1000000 → ED K (tCall (SpR K RMixed) [] E0 (tCons (tVar 0) (tCons te tNil))) ρ (.int (mixed ns i)) := fun h0 h1 a b => ed_call (eds_cons (ed_var h0) (eds_cons h1 eds_nil)) ⟨ns, _, rfl, a, b, rfl⟩
  have mb := mixed_bd ns
  have g0 := game_G 4 (mixed ns 0)
  have z0 : sz (game 4 (mixed ns 0)).data ≤ 639 := g0.sz
  have ok0 : okG 13 (game 4 (mixed ns 0)).data = true := g0.ok (by decide)
  have sh0 : SeqAt.shaped (game 4 (mixed ns 0)).data = true := (fit_T g0.depth).shaped (by decide)
  have eqv0 : PyData.eqv (game 4 (mixed ns 0)).data (game 4 (mixed ns 0)).data = true := by rw [T.data_eqv]; exact decide_eq_true rfl
  refine xd_seq (xd_asg (d := (game 4 (mixed ns 0)).data) (ed_call (eds_cons (mix rfl ed_int (by decide) (by decide)) (eds_cons ed_int eds_nil)) ⟨_, 4, rfl, (mb 0).1, by decide, rfl⟩)) ?_
  obtain ⟨ls, rs, eg, al, ar, nl, nr, gl, gr⟩ := g0
  rw [eg] at z0 ok0 sh0 eqv0 ⊢
  have gd : (T.gm ls rs).data = .tuple [.tuple (ls.map T.data), .tuple (rs.map T.data)] := T.gm_data ls rs
  rw [gd] at z0 ok0 sh0 eqv0 ⊢
  have okl : ∀ g, 3 < g → ∀ x ∈ ls.map T.data, okG g x = true := fun g hg => wordsF_up (f := 0) gl hg
  have okr : ∀ g, 3 < g → ∀ x ∈ rs.map T.data, okG g x = true := fun g hg => wordsF_up (f := 0) gr hg
  rw [sz_two] at z0
  have szl : ∀ x ∈ ls.map T.data, sz x ≤ 639 := fun x hx => by have := sz_mem hx; omega
  have szr : ∀ x ∈ rs.map T.data, sz x ≤ 639 := fun x hx => by have := sz_mem hx; omega
  have dpl : T.depths ls ≤ 8 := T.depths_le fun x hx => (gl x hx).depth
  have dpr : T.depths rs ≤ 8 := T.depths_le fun x hx => (gr x hx).depth
  have fll : ∀ x ∈ ls, full x = true := fun x hx => (gl x hx).full
  have flr : ∀ x ∈ rs, full x = true := fun x hx => (gr x hx).full
  have lenl : (ls.map T.data).length ≤ 2 := by rw [List.length_map]; exact nl
  have lenr : (rs.map T.data).length ≤ 2 := by rw [List.length_map]; exact nr
  have setg : (T.gm (T.set (ls.reverse ++ ls)) (T.set (rs ++ rs))).data = .tuple [.tuple (ls.map T.data), .tuple (rs.map T.data)] := by
    rw [← gd]
    congr 2
    · rw [T.set_ext (m := ls) fun x => by simp, T.set_idem al]
    · rw [T.set_ext (m := rs) fun x => by simp, T.set_idem ar]
  have revb : ∀ x y : T, ls = [x, y] → okG 13 (.tuple [.tuple [y.data, x.data], .tuple (rs.map T.data)]) = false := fun x y e => rev_bad (by
    rw [e] at al
    exact (List.pairwise_cons.mp al).1 y (by simp))
  have wrt : ∀ {ρ : Rho} {te : TE} {x : D}, ED K te ρ x → okG 13 x = true → sz x ≤ 20000 → ∀ {E : XK}, ED K (tCall (SpX K (RWritten cNoGame)) [] E (tCons te tNil)) ρ (.str (tx x)) := fun h1 h2 h3 E => ed_callX (eds_cons h1 eds_nil) ⟨_, rfl, h3, by rw [h2]; rfl⟩
  have rea : ∀ {ρ : Rho} {te : TE} {t : Str} {x : D}, ED K te ρ (.str t) → readF t = some x → t.length ≤ 39000 → ∀ {E : XK}, ED K (tCall (SpX K (RRead cNoText)) [] E (tCons te tNil)) ρ x := fun h1 h2 h3 E => ed_callX (eds_cons h1 eds_nil) ⟨_, rfl, h3, by rw [h2]⟩
  have non : ∀ {ρ : Rho} {te : TE} {t : Str}, ED K te ρ (.str t) → (readF t).isNone = true → t.length ≤ 39000 → ET K (tNot (tTest (tCall (SpR K RNone) [] E0 (tCons te tNil)))) ρ false := fun h1 h2 h3 => et_is' (et_not (et_test (ed_call (eds_cons h1 eds_nil) ⟨_, rfl, h3, rfl⟩))) (by rw [h2]; rfl)
  have ry := row_ok (okl 12 (by decide)) (okr 12 (by decide)) (by omega)
  rw [if_pos ok0] at ry
  obtain ⟨r1, r2, r3⟩ := ry
  have rt := row_text (ls.map T.data) (rs.map T.data)
  rw [rt] at r1 r2 r3
  have tw : tx (.tuple [.tuple (ls.map T.data), .tuple (rs.map T.data)]) = jn ([("[" : Str)] ++ (ls.map T.data).map tx ++ [("|" : Str)] ++ (rs.map T.data).map tx ++ [("]" : Str)]) := r1.symm
  have jl : ∀ ws : List Str, wt ws ≤ 5000 → (jn ws).length ≤ 39000 ∧ (ws.map (·.length)).sum + ws.length * (" " : Str).length ≤ 16777216 := fun ws hw => by
    have h1 := (jn_wt ws).1
    have h2 := wt_sum ws
    omega
  generalize ha : ls.map T.data = a at *
  generalize hb : rs.map T.data = b at *
  generalize hg : (PyData.tuple [.tuple a, .tuple b] : D) = d0 at *
  have sz0 : sz d0 ≤ 700 := by rw [← hg, sz_two]; omega
  -- the moves
  refine xd_seq (xd_unp (d := .tuple a) (d' := .tuple b) (by rw [hg]; exact ed_var rfl)) ?_
  -- the words
  generalize hw : [("[" : Str)] ++ a.map tx ++ [("|" : Str)] ++ b.map tx ++ [("]" : Str)] = ws at *
  refine xd_seq (xd_asg (d := .list (ws.map PyData.str)) (ed_el (el_is (el_op (ed_el (el_op (ed_el (el_op (ed_el (el_op (ed_el (el_lst (ds := [.str "["]) (eds_cons ed_str eds_nil) (by decide))) (ed_el (el_mapT (ds := a) (fun x => .str (tx x)) (ed_var rfl) (fun x hx => wrt (ed_var rfl) (okl 13 (by decide) x hx) (by have := szl x hx; omega)) (by omega))) (rl_addL (by rw [List.length_map, List.length_singleton]; omega)))) (ed_el (el_lst (ds := [.str "|"]) (eds_cons ed_str eds_nil) (by decide))) (rl_addL (by simp only [List.length_append, List.length_map, List.length_singleton]; omega)))) (ed_el (el_mapT (ds := b) (fun x => .str (tx x)) (ed_var rfl) (fun x hx => wrt (ed_var rfl) (okr 13 (by decide) x hx) (by have := szr x hx; omega)) (by omega))) (rl_addL (by simp only [List.length_append, List.length_map, List.length_singleton]; omega)))) (ed_el (el_lst (ds := [.str "]"]) (eds_cons ed_str eds_nil) (by decide))) (rl_addL (by simp only [List.length_append, List.length_map, List.length_singleton]; omega))) (by rw [← hw]; simp only [List.map_append, List.map_map, List.map_cons, List.map_nil]; rfl)))) ?_
  refine (show XD K _ [some (.list (ns.map PyData.int)), some d0, some (.tuple a), some (.tuple b), some (.list (ws.map PyData.str)), none, none, none, none, none, none, none, none, none] none _ from ?_)
  obtain ⟨l5, l6⟩ := jl ws r2
  have jnw : ∀ {ρ : Rho}, ρ[4]? = some (some (.list (ws.map PyData.str))) → ED K (tM1 (rJoin K) (tC (.str " ")) (tVar 4)) ρ (.str (jn ws)) := fun h => ed_is (ed_join (ys := ws) ed_str (ed_var h) rfl l6) (by rw [txt_jn])
  refine xd_seq (xd_ifF (et_is' (et_or (x := false) (et_is' (et_test (ed_op (wrt (ed_var rfl) ok0 (by omega)) (jnw rfl) rd_neS)) (by rw [tw]; simp)) fun _ => et_test (ed_op (rea (jnw rfl) r3 l5) (ed_var rfl) (rd_neU sh0 sh0))) (by rw [eqv0]; rfl)) xd_next) ?_
  -- moves in another order, twice
  have shE : SeqAt.shaped (.tuple [.tuple [], .tuple []]) = true := rfl
  refine xd_seq (xd_ifF (et_is' (et_or (x := false) (et_is' (et_test (ed_op (ed_call (ds := [.tuple (a.reverse ++ a), .tuple (List.replicate (2 : Int).toNat b).flatten]) (eds_cons (ed_op (ed_revT (ed_var rfl)) (ed_var rfl) (rd_addT (by rw [List.length_reverse]; omega))) (eds_cons (ed_op (ed_var rfl) ed_int (rd_mulT (by decide) (by decide) (by omega))) eds_nil)) (d := d0) ⟨ls.reverse ++ ls, rs ++ rs, _, _, rfl, .inr (by rw [List.map_append, List.map_reverse, ha]), .inr (by rw [List.map_append, hb]; simp [List.replicate]), ?_, ?_, ?_, ?_, ?_, ?_, setg.symm⟩) (ed_var rfl) (rd_neU sh0 sh0))) (by rw [eqv0]; rfl)) fun _ => et_test (ed_op (ed_call (ds := [.tuple [], .tuple []]) (eds_cons (ed_tup eds_nil) (eds_cons (ed_tup eds_nil) eds_nil)) (d := .tuple [.tuple [], .tuple []]) ⟨[], [], _, _, rfl, .inr rfl, .inr rfl, by simp, by simp, by decide, by decide, by decide, by decide, rfl⟩) (ed_tup (eds_cons (ed_tup eds_nil) (eds_cons (ed_tup eds_nil) eds_nil))) (rd_neU shE shE))) rfl) xd_next) ?_
  · exact fun t ht => by rcases List.mem_append.mp ht with h | h; exact fll t (List.mem_reverse.mp h); exact fll t h
  · exact fun t ht => by rcases List.mem_append.mp ht with h | h; exact flr t h; exact flr t h
  · exact T.depths_le fun t ht => by rcases List.mem_append.mp ht with h | h; exact Nat.le_trans (T.depth_mem (List.mem_reverse.mp h)) dpl; exact Nat.le_trans (T.depth_mem h) dpl
  · exact T.depths_le fun t ht => by rcases List.mem_append.mp ht with h | h; exact Nat.le_trans (T.depth_mem h) dpr; exact Nat.le_trans (T.depth_mem h) dpr
  · rw [List.length_append, List.length_reverse]; omega
  · rw [List.length_append]; omega
  -- how long it lasts
  refine xd_seq (xd_asg (d := .tuple (a ++ b)) (ed_op (ed_var rfl) (ed_var rfl) (rd_addT (by omega)))) ?_
  have okab : ∀ x ∈ a ++ b, okG 12 x = true ∧ sz x ≤ 639 := fun x hx => by
    rcases List.mem_append.mp hx with h | h
    · exact ⟨okl 12 (by decide) x h, szl x h⟩
    · exact ⟨okr 12 (by decide) x h, szr x h⟩
  have lst0 : lastF 13 d0 = mx ((a ++ b).map fun x => 1 + lastF 12 x) := by rw [← hg]; rfl
  refine xd_seq (xd_ifF (et_is' (et_or (x := false) (et_is' (et_test (ed_op (ed_call (eds_cons (ed_var rfl) eds_nil) (d := .int (lastF 13 d0)) ⟨d0, 13, rfl, by decide, ok0, by omega, rfl⟩) (ed_cb (eds_cons (ed_el (el_op (ed_el (el_lst (ds := [.int 0]) (eds_cons ed_int eds_nil) (by decide))) (ed_el (el_mapT (ds := a ++ b) (fun x => .int (1 + lastF 12 x)) (ed_var rfl) (fun x hx => ed_op ed_int (ed_call (eds_cons (ed_var rfl) eds_nil) (d := .int (lastF 12 x)) ⟨x, 12, rfl, by decide, (okab x hx).1, by have := (okab x hx).2; omega, rfl⟩) rd_addI) (by rw [List.length_append]; omega))) (rl_addL (by simp only [List.length_append, List.length_map, List.length_singleton]; omega)))) eds_nil) (cd_max (m := lastF 13 d0) (ns := 0 :: (a ++ b).map fun x => 1 + lastF 12 x) (by rw [List.map_cons, List.map_map]; rfl) (by rw [lst0]; exact mx_mem _) (fun y hy => ?_))) rd_neI)) (by simp)) fun _ => et_test (ed_op (ed_call (eds_cons (ed_var rfl) eds_nil) (d := .bool (okG 13 d0)) ⟨d0, rfl, by omega, rfl⟩) ed_bl rd_isnotBl)) (by rw [ok0]; rfl)) xd_next) ?_
  · obtain ⟨h1, h2⟩ := mx_le ((a ++ b).map fun x => 1 + lastF 12 x)
    rw [lst0]
    rcases List.mem_cons.mp hy with e | hy
    · rw [e]; exact h1
    · exact h2 y hy
  refine (show XD K _ [some (.list (ns.map PyData.int)), some d0, some (.tuple a), some (.tuple b), some (.list (ws.map PyData.str)), none, some (.tuple (a ++ b)), none, none, none, none, none, none, none] none _ from ?_)
  -- moves the other way about
  refine xd_seq (ρ' := [some (.list (ns.map PyData.int)), some d0, some (.tuple a), some (.tuple b), some (.list (ws.map PyData.str)), none, some (.tuple (a ++ b)), none, none, none, none, none, none, none]) (ω' := none) ?_ ?_
  · refine xd_if (et_test (ed_op (ed_is (ed_cb (eds_cons (ed_var rfl) eds_nil) cd_lenT) rfl) ed_int rd_gtI)) (fun c => ?_) (fun _ => xd_next)
    have c := of_decide_eq_true c
    obtain ⟨x, y, exy⟩ : ∃ x y, ls = [x, y] := len_two (by
      have : a.length = ls.length := by rw [← ha, List.length_map]
      omega)
    have ea : a = [x.data, y.data] := by rw [← ha, exy]; rfl
    have bad := revb x y exy
    have ox := okl 12 (by decide) x.data (by rw [ea]; simp)
    have oy := okl 12 (by decide) y.data (by rw [ea]; simp)
    have sx := sz_mem (d := x.data) (ds := a) (by rw [ea]; simp)
    have sy := sz_mem (d := y.data) (ds := a) (by rw [ea]; simp)
    have o2 : ∀ z ∈ [y.data, x.data], okG 12 z = true := fun z hz => by
      simp only [List.mem_cons, List.not_mem_nil, or_false] at hz
      rcases hz with h | h <;> rw [h] <;> assumption
    have szs2 : szs [y.data, x.data] = szs a := by rw [ea]; simp only [szs]; omega
    obtain ⟨q1, q2, q3⟩ := row_ok o2 (okr 12 (by decide)) (by omega)
    rw [bad, if_neg Bool.false_ne_true, row_text] at q3
    rw [row_text] at q2
    obtain ⟨l7, l8⟩ := jl _ q2
    generalize hv : [("[" : Str)] ++ [y.data, x.data].map tx ++ [("|" : Str)] ++ b.map tx ++ [("]" : Str)] = vs at *
    have len2 : a.length = 2 := by rw [ea]; rfl
    refine xd_less (xd_seq (xd_asg (d := .list (vs.map PyData.str)) (ed_el (el_is (el_op (ed_el (el_op (ed_el (el_lst (ds := [.str "["]) (eds_cons ed_str eds_nil) (by decide))) (ed_el (el_mapT (ds := a.reverse) (fun x => .str (tx x)) (ed_revT (ed_var rfl)) (fun x hx => wrt (ed_var rfl) (okl 13 (by decide) x (List.mem_reverse.mp hx)) (by have := szl x (List.mem_reverse.mp hx); omega)) (by rw [List.length_reverse]; omega))) (rl_addL (by rw [List.length_map, List.length_singleton, List.length_reverse]; omega)))) (ed_el (el_slUL (ds := ws.map PyData.str) (lo := some ((3 : Nat) : Int)) (ed_var rfl) (eo_some (ed_is (ed_op (ed_cb (eds_cons (ed_var rfl) eds_nil) cd_lenT) ed_int rd_addI) (by rw [len2]; rfl))) eo_none)) (rl_addL ?_)) ?_))) (xd_ifF (non (ed_is (ed_join (ys := vs) ed_str (ed_var rfl) rfl l8) (by rw [txt_jn])) (by rw [q3]; rfl) l7) xd_next)) rfl (set_less (by simp))
    · rw [cut_from, ← hw, ea]
      simp only [List.length_append, List.length_map, List.length_drop, List.length_singleton, List.length_reverse, List.length_cons, List.length_nil]
      omega
    · rw [cut_from, ← hw, ← hv, ea]
      simp only [List.map_append, List.map_cons, List.map_nil, List.map_map]
      rfl
  -- long ones
  refine xd_seq (xd_asg (d := .str (jn (nestW 0))) (ed_is ed_str (by rfl))) ?_
  have nl12 : ∀ i, i ≤ 13 → (jn (nestW i)).length ≤ 200 := fun i hi => by
    have h1 := jn_len (ws := nestW i) fun x hx => by rcases nest_okw i x hx with z | z | z <;> rw [z] <;> rfl
    have h2 := nest_len i
    omega
  have ln := rngD_len 0 12
  refine xd_seq (xd_forR1 (n := 12) (fun i => [some (.list (ns.map PyData.int)), some d0, some (.tuple a), some (.tuple b), some (.list (ws.map PyData.str)), none, some (.tuple (a ++ b)), none, some (.str (jn (nestW i))), none, none, none, none, none]) (fun _ => none) (eds_cons ed_int eds_nil) (by decide) (by decide) rfl rfl (fun _ _ e => by cases e) (Go.allF (fun _ d => by simp) (fun _ => rfl) fun i d hi => ?_)) ?_
  · have hi2 : i < 12 := by
      have := (List.getElem?_eq_some_iff.mp hi).1
      rwa [show (12 : Int).toNat = 12 from rfl, ln] at this
    have := nl12 i (by omega)
    refine xd_asg (d := .str (jn (nestW (i + 1)))) (ed_is (ed_op (ed_op ed_str (ed_var rfl) (rd_addS ?_)) ed_str (rd_addS ?_)) (by rw [nest_step]))
    · rw [show ("[ " : Str).length = 2 from rfl]; omega
    · rw [Str.length_append, show ("[ " : Str).length = 2 from rfl, show (" | ]" : Str).length = 4 from rfl]; omega
  rw [show (12 : Int).toNat = 12 from rfl, ln]
  have l12 := nl12 12 (by decide)
  have n12 : readF (jn (nestW 12)) = some (nestD 12) := by rw [readF_nest]; rfl
  have n13 : (readF (("[ " : Str) ++ jn (nestW 12) ++ " | ]")).isNone = true := by rw [nest_step, readF_nest]; rfl
  have rn := right_none
  refine xd_seq (xd_ifF (et_is' (et_or (x := false) (et_is' (et_test (ed_op (ed_call (eds_cons (rea (ed_var rfl) n12 (by omega)) eds_nil) (d := .int (lastF 13 (nestD 12))) ⟨nestD 12, 13, rfl, by decide, nest_ok 13 12 (by decide), by rw [nest_size]; decide, rfl⟩) ed_int rd_neI)) (by rw [nest_last]; rfl)) fun _ => et_or (x := false) (non (ed_op (ed_op ed_str (ed_var rfl) (rd_addS ?_)) ed_str (rd_addS ?_)) n13 ?_) fun _ => non (ed_op (ed_op ed_str (ed_var rfl) (rd_addS ?_)) ed_str (rd_addS ?_)) rn ?_) rfl) xd_next) ?_
  · rw [show ("[ " : Str).length = 2 from rfl]; omega
  · rw [Str.length_append, show ("[ " : Str).length = 2 from rfl, show (" | ]" : Str).length = 4 from rfl]; omega
  · rw [Str.length_append, Str.length_append, show ("[ " : Str).length = 2 from rfl, show (" | ]" : Str).length = 4 from rfl]; omega
  · rw [show ("[ | " : Str).length = 4 from rfl]; omega
  · rw [Str.length_append, show ("[ | " : Str).length = 4 from rfl, show (" ]" : Str).length = 2 from rfl]; omega
  · rw [Str.length_append, Str.length_append, show ("[ | " : Str).length = 4 from rfl, show (" ]" : Str).length = 2 from rfl]; omega
  generalize jn (nestW 12) = lg at *
  refine (show XD K _ [some (.list (ns.map PyData.int)), some d0, some (.tuple a), some (.tuple b), some (.list (ws.map PyData.str)), none, some (.tuple (a ++ b)), none, some (.str lg), none, none, none, none, none] none _ from ?_)
  -- bad ones
  refine xd_seq (xd_asgOwn (i := 10) (el_lst (ds := (["", "[", "]", "[ ]", "[|]", "[ | ] ", " [ | ]", "[  | ]", "[ | | ]", "[ | ] [ | ]", "| [ ]"] : List Str).map PyData.str) (eds_cons ed_str (eds_cons ed_str (eds_cons ed_str (eds_cons ed_str (eds_cons ed_str (eds_cons ed_str (eds_cons ed_str (eds_cons ed_str (eds_cons ed_str (eds_cons ed_str (eds_cons ed_str eds_nil))))))))))) (by decide)) (show 10 < 14 by decide)) ?_
  refine xd_seq (xd_app (d := .str "[ [ | ] [ | ] | ]") ed_str rfl (by decide)) ?_
  refine xd_free (show 10 < 14 by decide) ?_
  refine xd_seq (xd_asg (d := .list (bads.map PyData.str)) (ed_el (el_is (el_op (ed_var rfl) (ed_el (el_lst (ds := (["[ [ | ] ]", "[ | [ ]", "[ | ] ]", "[ [ | [ | ] ] [ | ] | ]", "[ | 0 ]", "( | )"] : List Str).map PyData.str) (eds_cons ed_str (eds_cons ed_str (eds_cons ed_str (eds_cons ed_str (eds_cons ed_str (eds_cons ed_str eds_nil)))))) (by decide))) (rl_addL (by decide))) rfl))) ?_
  refine xd_seq (xd_asg (d := .list (goods.map PyData.str)) (ed_el (el_lst (ds := goods.map PyData.str) (eds_cons ed_str (eds_cons ed_str (eds_cons ed_str (eds_cons ed_str (eds_cons ed_str eds_nil))))) (by decide)))) ?_
  refine xd_seq (xd_asg (d := .int (mixed ns 1)) (mix rfl ed_int (by decide) (by decide))) ?_
  generalize hB : bads.map PyData.str = bd at *
  generalize hG : goods.map PyData.str = gd0 at *
  generalize mixed ns 1 = n1 at *
  refine (show XD K _ [some (.list (ns.map PyData.int)), some d0, some (.tuple a), some (.tuple b), some (.list (ws.map PyData.str)), none, some (.tuple (a ++ b)), none, some (.str lg), none, some (.list bd), some (.list gd0), some (.int n1), none] none _ from ?_)
  have bl : bd.length = 18 := by rw [← hB]; rfl
  refine xd_seq (xd_forR1 (n := 6) (fun i => [some (.list (ns.map PyData.int)), some d0, some (.tuple a), some (.tuple b), some (.list (ws.map PyData.str)), none, some (.tuple (a ++ b)), none, some (.str lg), none, some (.list bd), some (.list gd0), some (.int n1), none]) (fun _ => none) (eds_cons ed_int eds_nil) (by decide) (by decide) rfl rfl (fun _ _ e => by cases e) (Go.allF (fun _ d => by simp) (fun _ => rfl) fun i d hi => ?_)) ?_
  · obtain ⟨i', hi', rfl⟩ := mem_rng (List.mem_of_getElem? hi)
    obtain ⟨s, s1, s2, s3⟩ := bad_at (n1 / 7 + 5 * (0 + (i' : Int)))
    rw [hB] at s1
    exact xd_ifF (non (ed_op (ed_var rfl) (ed_op (ed_op (ed_op (ed_var rfl) ed_int (rd_div ⟨by decide, by decide⟩)) (ed_op ed_int (ed_var rfl) (rd_mulI (.inl ⟨by decide, by decide⟩))) rd_addI) (ed_is (ed_cb (eds_cons (ed_var rfl) eds_nil) cd_lenL) (by rw [bl]; rfl)) (rd_mod (by decide))) (rd_ixUL s1)) s2 s3) xd_next
  -- good ones
  have fz : gd0.filter (fun _ => false) = [] := by simp
  refine xd_ret (ed_is (ed_op (ed_el (el_lcL (ds := gd0) (fun _ => false) (fun x => x) (ed_var rfl) (fun x hx => ?_) (fun _ _ h => by cases h) (by rw [← hG]; decide))) (ed_el (el_lst eds_nil (by decide))) (rd_eqU (by rw [fz]; rfl) rfl)) (by rw [fz]; rfl))
  rw [← hG] at hx
  obtain ⟨s, hs, rfl⟩ := List.mem_map.mp hx
  have s1 := List.all_eq_true.mp goods_read s hs
  obtain ⟨g, hg1⟩ := Option.isSome_iff_exists.mp s1
  obtain ⟨k1, k2, k3⟩ := readF_ok hg1
  have sl : s.length ≤ 100 := by
    have : (goods.all fun w => decide (w.length ≤ 100)) = true := by decide +kernel
    exact of_decide_eq_true (List.all_eq_true.mp this _ hs)
  refine et_is' (et_test (ed_op (wrt (rea (ed_var rfl) hg1 (by omega)) k1 (by omega)) (ed_var rfl) rd_neS)) ?_
  unfold tx
  rw [k2]
  simp
end
end LM

set_option Elab.async false
set_option linter.all false
set_option maxRecDepth 100000
set_option maxHeartbeats 4000000
namespace LM
open PySem PySem.Spec PyProof.Rows L2 Evl
theorem all_mk {l : PySem.W.OpenLaw} {w : World} {K : PySem.W.Frag} {h : Heap} {mg : Str → Option Value} {fa : Addr} (X : K.In h) (G : h.Ns mainGlobals mg) (hfa : mg "law" = some (.ref fa))
    {f0 : Addr} {od0 an0 : Option Addr} {sl0 : Array (Option Value)} {oc0 kV0 dc0 pm0 cd0 ct0 : Value} {f1 : Addr} {od1 an1 : Option Addr} {sl1 : Array (Option Value)} {oc1 kV1 dc1 pm1 cd1 ct1 : Value} {f2 : Addr} {od2 an2 : Option Addr} {sl2 : Array (Option Value)} {oc2 kV2 dc2 pm2 cd2 ct2 : Value} {f3 : Addr} {od3 an3 : Option Addr} {sl3 : Array (Option Value)} {oc3 kV3 dc3 pm3 cd3 ct3 : Value} {f4 : Addr} {od4 an4 : Option Addr} {sl4 : Array (Option Value)} {oc4 kV4 dc4 pm4 cd4 ct4 : Value} {f5 : Addr} {od5 an5 : Option Addr} {sl5 : Array (Option Value)} {oc5 kV5 dc5 pm5 cd5 ct5 : Value} {f6 : Addr} {od6 an6 : Option Addr} {sl6 : Array (Option Value)} {oc6 kV6 dc6 pm6 cd6 ct6 : Value} {f7 : Addr} {od7 an7 : Option Addr} {sl7 : Array (Option Value)} {oc7 kV7 dc7 pm7 cd7 ct7 : Value} {f8 : Addr} {od8 an8 : Option Addr} {sl8 : Array (Option Value)} {oc8 kV8 dc8 pm8 cd8 ct8 : Value} {f9 : Addr} {od9 an9 : Option Addr} {sl9 : Array (Option Value)} {oc9 kV9 dc9 pm9 cd9 ct9 : Value} {f10 : Addr} {od10 an10 : Option Addr} {sl10 : Array (Option Value)} {oc10 kV10 dc10 pm10 cd10 ct10 : Value} {f11 : Addr} {od11 an11 : Option Addr} {sl11 : Array (Option Value)} {oc11 kV11 dc11 pm11 cd11 ct11 : Value} {f12 : Addr} {od12 an12 : Option Addr} {sl12 : Array (Option Value)} {oc12 kV12 dc12 pm12 cd12 ct12 : Value} {f13 : Addr} {od13 an13 : Option Addr} {sl13 : Array (Option Value)} {oc13 kV13 dc13 pm13 cd13 ct13 : Value} {f14 : Addr} {od14 an14 : Option Addr} {sl14 : Array (Option Value)} {oc14 kV14 dc14 pm14 cd14 ct14 : Value} {f15 : Addr} {od15 an15 : Option Addr} {sl15 : Array (Option Value)} {oc15 kV15 dc15 pm15 cd15 ct15 : Value} {f16 : Addr} {od16 an16 : Option Addr} {sl16 : Array (Option Value)} {oc16 kV16 dc16 pm16 cd16 ct16 : Value} {f17 : Addr} {od17 an17 : Option Addr} {sl17 : Array (Option Value)} {oc17 kV17 dc17 pm17 cd17 ct17 : Value} {tk0 : Tok} {cNoGame : Addr} {cNoText : Addr}
    (a0 : PySem.W.nsIn K mainGlobals "rises" = some (some (.ref f0))) (l0 : K.lookup f0 = some ⟨oc0, od0, .func (PySem.W.fnOf "rises" "rises" (defArgs sRises) (defBody sRises) (defScope sRises) .none kV0 dc0 pm0 an0 cd0 ct0), sl0⟩) (c0 : PySem.W.codeIn K cd0 "rises" = true) (k0 : PySem.W.keepIn K (.ref f0) = true)
    (a1 : PySem.W.nsIn K mainGlobals "fits_game" = some (some (.ref f1))) (l1 : K.lookup f1 = some ⟨oc1, od1, .func (PySem.W.fnOf "fits_game" "fits_game" (defArgs sFitsGame) (defBody sFitsGame) (defScope sFitsGame) .none kV1 dc1 pm1 an1 cd1 ct1), sl1⟩) (c1 : PySem.W.codeIn K cd1 "fits_game" = true) (k1 : PySem.W.keepIn K (.ref f1) = true)
    (a2 : PySem.W.nsIn K mainGlobals "is_game" = some (some (.ref f2))) (l2 : K.lookup f2 = some ⟨oc2, od2, .func (PySem.W.fnOf "is_game" "is_game" (defArgs sIsGame) (defBody sIsGame) (defScope sIsGame) .none kV2 dc2 pm2 an2 cd2 ct2), sl2⟩) (c2 : PySem.W.codeIn K cd2 "is_game" = true) (k2 : PySem.W.keepIn K (.ref f2) = true)
    (a3 : PySem.W.nsIn K mainGlobals "lasting" = some (some (.ref f3))) (l3 : K.lookup f3 = some ⟨oc3, od3, .func (PySem.W.fnOf "lasting" "lasting" (defArgs sLasting) (defBody sLasting) (defScope sLasting) .none kV3 dc3 pm3 an3 cd3 ct3), sl3⟩) (c3 : PySem.W.codeIn K cd3 "lasting" = true) (k3 : PySem.W.keepIn K (.ref f3) = true)
    (a4 : PySem.W.nsIn K mainGlobals "game_by" = some (some (.ref f4))) (l4 : K.lookup f4 = some ⟨oc4, od4, .func (PySem.W.fnOf "game_by" "game_by" (defArgs sGameBy) (defBody sGameBy) (defScope sGameBy) .none kV4 dc4 pm4 an4 cd4 ct4), sl4⟩) (c4 : PySem.W.codeIn K cd4 "game_by" = true) (k4 : PySem.W.keepIn K (.ref f4) = true)
    (a5 : PySem.W.nsIn K mainGlobals "game_words" = some (some (.ref f5))) (l5 : K.lookup f5 = some ⟨oc5, od5, .func (PySem.W.fnOf "game_words" "game_words" (defArgs sGameWords) (defBody sGameWords) (defScope sGameWords) .none kV5 dc5 pm5 an5 cd5 ct5), sl5⟩) (c5 : PySem.W.codeIn K cd5 "game_words" = true) (k5 : PySem.W.keepIn K (.ref f5) = true)
    (a6 : PySem.W.nsIn K mainGlobals "written" = some (some (.ref f6))) (l6 : K.lookup f6 = some ⟨oc6, od6, .func (PySem.W.fnOf "written" "written" (defArgs sWritten) (defBody sWritten) (defScope sWritten) .none kV6 dc6 pm6 an6 cd6 ct6), sl6⟩) (c6 : PySem.W.codeIn K cd6 "written" = true) (k6 : PySem.W.keepIn K (.ref f6) = true)
    (a7 : PySem.W.nsIn K mainGlobals "read_games" = some (some (.ref f7))) (l7 : K.lookup f7 = some ⟨oc7, od7, .func (PySem.W.fnOf "read_games" "read_games" (defArgs sReadGames) (defBody sReadGames) (defScope sReadGames) .none kV7 dc7 pm7 an7 cd7 ct7), sl7⟩) (c7 : PySem.W.codeIn K cd7 "read_games" = true) (k7 : PySem.W.keepIn K (.ref f7) = true)
    (a8 : PySem.W.nsIn K mainGlobals "read_from" = some (some (.ref f8))) (l8 : K.lookup f8 = some ⟨oc8, od8, .func (PySem.W.fnOf "read_from" "read_from" (defArgs sReadFrom) (defBody sReadFrom) (defScope sReadFrom) .none kV8 dc8 pm8 an8 cd8 ct8), sl8⟩) (c8 : PySem.W.codeIn K cd8 "read_from" = true) (k8 : PySem.W.keepIn K (.ref f8) = true)
    (a9 : PySem.W.nsIn K mainGlobals "read" = some (some (.ref f9))) (l9 : K.lookup f9 = some ⟨oc9, od9, .func (PySem.W.fnOf "read" "read" (defArgs sRead) (defBody sRead) (defScope sRead) .none kV9 dc9 pm9 an9 cd9 ct9), sl9⟩) (c9 : PySem.W.codeIn K cd9 "read" = true) (k9 : PySem.W.keepIn K (.ref f9) = true)
    (a10 : PySem.W.nsIn K mainGlobals "_law_cell_at" = some (some (.ref f10))) (l10 : K.lookup f10 = some ⟨oc10, od10, .func (PySem.W.fnOf "_law_cell_at" "_law_cell_at" (defArgs sLawCellAt) (defBody sLawCellAt) (defScope sLawCellAt) .none kV10 dc10 pm10 an10 cd10 ct10), sl10⟩) (c10 : PySem.W.codeIn K cd10 "_law_cell_at" = true) (k10 : PySem.W.keepIn K (.ref f10) = true)
    (a11 : PySem.W.nsIn K mainGlobals "_law_mixed" = some (some (.ref f11))) (l11 : K.lookup f11 = some ⟨oc11, od11, .func (PySem.W.fnOf "_law_mixed" "_law_mixed" (defArgs sLawMixed) (defBody sLawMixed) (defScope sLawMixed) .none kV11 dc11 pm11 an11 cd11 ct11), sl11⟩) (c11 : PySem.W.codeIn K cd11 "_law_mixed" = true) (k11 : PySem.W.keepIn K (.ref f11) = true)
    (a12 : PySem.W.nsIn K mainGlobals "_law_drawn" = some (some (.ref f12))) (l12 : K.lookup f12 = some ⟨oc12, od12, .func (PySem.W.fnOf "_law_drawn" "_law_drawn" (defArgs sLawDrawn) (defBody sLawDrawn) (defScope sLawDrawn) .none kV12 dc12 pm12 an12 cd12 ct12), sl12⟩) (c12 : PySem.W.codeIn K cd12 "_law_drawn" = true) (k12 : PySem.W.keepIn K (.ref f12) = true)
    (a13 : PySem.W.nsIn K mainGlobals "_law_once" = some (some (.ref f13))) (l13 : K.lookup f13 = some ⟨oc13, od13, .func (PySem.W.fnOf "_law_once" "_law_once" (defArgs sLawOnce) (defBody sLawOnce) (defScope sLawOnce) .none kV13 dc13 pm13 an13 cd13 ct13), sl13⟩) (c13 : PySem.W.codeIn K cd13 "_law_once" = true) (k13 : PySem.W.keepIn K (.ref f13) = true)
    (a14 : PySem.W.nsIn K mainGlobals "_law_by" = some (some (.ref f14))) (l14 : K.lookup f14 = some ⟨oc14, od14, .func (PySem.W.fnOf "_law_by" "_law_by" (defArgs sLawBy) (defBody sLawBy) (defScope sLawBy) .none kV14 dc14 pm14 an14 cd14 ct14), sl14⟩) (c14 : PySem.W.codeIn K cd14 "_law_by" = true) (k14 : PySem.W.keepIn K (.ref f14) = true)
    (a15 : PySem.W.nsIn K mainGlobals "_law_game" = some (some (.ref f15))) (l15 : K.lookup f15 = some ⟨oc15, od15, .func (PySem.W.fnOf "_law_game" "_law_game" (defArgs sLawGame) (defBody sLawGame) (defScope sLawGame) .none kV15 dc15 pm15 an15 cd15 ct15), sl15⟩) (c15 : PySem.W.codeIn K cd15 "_law_game" = true) (k15 : PySem.W.keepIn K (.ref f15) = true)
    (a16 : PySem.W.nsIn K mainGlobals "_law_none" = some (some (.ref f16))) (l16 : K.lookup f16 = some ⟨oc16, od16, .func (PySem.W.fnOf "_law_none" "_law_none" (defArgs sLawNone) (defBody sLawNone) (defScope sLawNone) .none kV16 dc16 pm16 an16 cd16 ct16), sl16⟩) (c16 : PySem.W.codeIn K cd16 "_law_none" = true) (k16 : PySem.W.keepIn K (.ref f16) = true)
    (a17 : PySem.W.nsIn K mainGlobals "law" = some (some (.ref f17))) (l17 : K.lookup f17 = some ⟨oc17, od17, .func (PySem.W.fnOf "law" "law" (defArgs sLaw) (defBody sLaw) (defScope sLaw) .none kV17 dc17 pm17 an17 cd17 ct17), sl17⟩) (c17 : PySem.W.codeIn K cd17 "law" = true) (k17 : PySem.W.keepIn K (.ref f17) = true)
    (g0 : PySem.W.nsIn K mainGlobals "LONGEST" = some (some (.int 12 tk0)))
    (z0 : PySem.W.nsIn K mainGlobals "len" = some none)
    (z1 : PySem.W.nsIn K mainGlobals "range" = some none)
    (z2 : PySem.W.nsIn K mainGlobals "sorted" = some none)
    (z3 : PySem.W.nsIn K mainGlobals "set" = some none)
    (z4 : PySem.W.nsIn K mainGlobals "tuple" = some none)
    (z5 : PySem.W.nsIn K mainGlobals "list" = some none)
    (z6 : PySem.W.nsIn K mainGlobals "zip" = some none)
    (z7 : PySem.W.nsIn K mainGlobals "all" = some none)
    (z8 : PySem.W.nsIn K mainGlobals "any" = some none)
    (z9 : PySem.W.nsIn K mainGlobals "sum" = some none)
    (z10 : PySem.W.nsIn K mainGlobals "max" = some none)
    (z11 : PySem.W.nsIn K mainGlobals "min" = some none)
    (z12 : PySem.W.nsIn K mainGlobals "isinstance" = some none)
    (z13 : PySem.W.nsIn K mainGlobals "int" = some none)
    (z14 : PySem.W.nsIn K mainGlobals "bool" = some none)
    (z15 : PySem.W.nsIn K mainGlobals "str" = some none)
    (z16 : PySem.W.nsIn K mainGlobals "abs" = some none)
    (z17 : PySem.W.nsIn K mainGlobals "enumerate" = some none)
    (z18 : PySem.W.nsIn K mainGlobals "repr" = some none)
    (z19 : PySem.W.nsIn K mainGlobals "ValueError" = some none)
    (gaNoGame : PySem.W.nsIn K mainGlobals "NoGame" = some (some (.ref cNoGame))) (gkNoGame : PySem.W.keepIn K (.ref cNoGame) = true) (gxNoGame : PySem.W.excIn K cNoGame [.type "ValueError", .type "Exception", .type "BaseException", .type "object"] "ValueError.__new__" = true)
    (gbNoGame : PySem.W.subIn K (.ref cNoGame) (.type "BaseException") = some true) (gtNoGame : PySem.W.typeIn K (.ref cNoGame) = some (.type "type")) (gdNoGame : PySem.W.hasDictIn K cNoGame = true)
    (gaNoText : PySem.W.nsIn K mainGlobals "NoText" = some (some (.ref cNoText))) (gkNoText : PySem.W.keepIn K (.ref cNoText) = true) (gxNoText : PySem.W.excIn K cNoText [.type "ValueError", .type "Exception", .type "BaseException", .type "object"] "ValueError.__new__" = true)
    (gbNoText : PySem.W.subIn K (.ref cNoText) (.type "BaseException") = some true) (gtNoText : PySem.W.typeIn K (.ref cNoText) = some (.type "type")) (gdNoText : PySem.W.hasDictIn K cNoText = true)
    (e7 : PySem.W.subIn K (.ref cNoText) (.ref cNoText) = some true)
    : ∃ fd : FuncData, (∀ (s : Shared) (v : Value), BindsTo s fd ⟨[v], []⟩ [("_law_script", v)]) ∧ ∀ base : Heap, K.In base → base.Ns mainGlobals mg → FnOk l.prog w K mg base CX0 31 fa fd ["_law_script"] (SpR K RLaw) := by
  have e := hfa.symm.trans (PySem.W.mg_of X G a17)
  cases e
  have F_rises := fun_mk (st := sRises) l0 c0 k0
  have b_rises := F_rises.binds (ps := ["games"]) fun _ _ _ _ _ _ us hl => match us, hl with | [_], _ => rfl
  have m_rises := PySem.W.mg_of X G a0
  have F_fits_game := fun_mk (st := sFitsGame) l1 c1 k1
  have b_fits_game := F_fits_game.binds (ps := ["thing", "deep"]) fun _ _ _ _ _ _ us hl => match us, hl with | [_, _], _ => rfl
  have m_fits_game := PySem.W.mg_of X G a1
  have F_is_game := fun_mk (st := sIsGame) l2 c2 k2
  have b_is_game := F_is_game.binds (ps := ["thing"]) fun _ _ _ _ _ _ us hl => match us, hl with | [_], _ => rfl
  have m_is_game := PySem.W.mg_of X G a2
  have F_lasting := fun_mk (st := sLasting) l3 c3 k3
  have b_lasting := F_lasting.binds (ps := ["game"]) fun _ _ _ _ _ _ us hl => match us, hl with | [_], _ => rfl
  have m_lasting := PySem.W.mg_of X G a3
  have F_game_by := fun_mk (st := sGameBy) l4 c4 k4
  have b_game_by := F_game_by.binds (ps := ["lefts", "rights"]) fun _ _ _ _ _ _ us hl => match us, hl with | [_, _], _ => rfl
  have m_game_by := PySem.W.mg_of X G a4
  have F_game_words := fun_mk (st := sGameWords) l5 c5 k5
  have b_game_words := F_game_words.binds (ps := ["game"]) fun _ _ _ _ _ _ us hl => match us, hl with | [_], _ => rfl
  have m_game_words := PySem.W.mg_of X G a5
  have F_written := fun_mk (st := sWritten) l6 c6 k6
  have b_written := F_written.binds (ps := ["game"]) fun _ _ _ _ _ _ us hl => match us, hl with | [_], _ => rfl
  have m_written := PySem.W.mg_of X G a6
  have F_read_games := fun_mk (st := sReadGames) l7 c7 k7
  have b_read_games := F_read_games.binds (ps := ["words", "at", "end", "deep"]) fun _ _ _ _ _ _ us hl => match us, hl with | [_, _, _, _], _ => rfl
  have m_read_games := PySem.W.mg_of X G a7
  have F_read_from := fun_mk (st := sReadFrom) l8 c8 k8
  have b_read_from := F_read_from.binds (ps := ["words", "at", "deep"]) fun _ _ _ _ _ _ us hl => match us, hl with | [_, _, _], _ => rfl
  have m_read_from := PySem.W.mg_of X G a8
  have F_read := fun_mk (st := sRead) l9 c9 k9
  have b_read := F_read.binds (ps := ["text"]) fun _ _ _ _ _ _ us hl => match us, hl with | [_], _ => rfl
  have m_read := PySem.W.mg_of X G a9
  have F__law_cell_at := fun_mk (st := sLawCellAt) l10 c10 k10
  have b__law_cell_at := F__law_cell_at.binds (ps := ["_law_script", "_law_k"]) fun _ _ _ _ _ _ us hl => match us, hl with | [_, _], _ => rfl
  have m__law_cell_at := PySem.W.mg_of X G a10
  have F__law_mixed := fun_mk (st := sLawMixed) l11 c11 k11
  have b__law_mixed := F__law_mixed.binds (ps := ["_law_script", "_law_k"]) fun _ _ _ _ _ _ us hl => match us, hl with | [_, _], _ => rfl
  have m__law_mixed := PySem.W.mg_of X G a11
  have F__law_drawn := fun_mk (st := sLawDrawn) l12 c12 k12
  have b__law_drawn := F__law_drawn.binds (ps := ["_law_number", "_law_k"]) fun _ _ _ _ _ _ us hl => match us, hl with | [_, _], _ => rfl
  have m__law_drawn := PySem.W.mg_of X G a12
  have F__law_once := fun_mk (st := sLawOnce) l13 c13 k13
  have b__law_once := F__law_once.binds (ps := ["_law_some"]) fun _ _ _ _ _ _ us hl => match us, hl with | [_], _ => rfl
  have m__law_once := PySem.W.mg_of X G a13
  have F__law_by := fun_mk (st := sLawBy) l14 c14 k14
  have b__law_by := F__law_by.binds (ps := ["_law_lefts", "_law_rights"]) fun _ _ _ _ _ _ us hl => match us, hl with | [_, _], _ => rfl
  have m__law_by := PySem.W.mg_of X G a14
  have F__law_game := fun_mk (st := sLawGame) l15 c15 k15
  have b__law_game := F__law_game.binds (ps := ["_law_number", "_law_deep"]) fun _ _ _ _ _ _ us hl => match us, hl with | [_, _], _ => rfl
  have m__law_game := PySem.W.mg_of X G a15
  have F__law_none := fun_mk (st := sLawNone) l16 c16 k16
  have b__law_none := F__law_none.binds (ps := ["_law_text"]) fun _ _ _ _ _ _ us hl => match us, hl with | [_], _ => rfl
  have m__law_none := PySem.W.mg_of X G a16
  have F_law := fun_mk (st := sLaw) l17 c17 k17
  have c_LONGEST : ∃ tk, mg "LONGEST" = some (.int 12 tk) := ⟨_, PySem.W.mg_of X G g0⟩
  have T_NoGame : XCls K mg "NoGame" cNoGame := ⟨PySem.W.mg_of X G gaNoGame, gkNoGame, gxNoGame, gbNoGame, gtNoGame, gdNoGame⟩
  have T_NoText : XCls K mg "NoText" cNoText := ⟨PySem.W.mg_of X G gaNoText, gkNoText, gxNoText, gbNoText, gtNoText, gdNoText⟩
  have B : BI mg := ⟨PySem.W.mg_none_of X G z0, PySem.W.mg_none_of X G z1, PySem.W.mg_none_of X G z2, PySem.W.mg_none_of X G z3, PySem.W.mg_none_of X G z4, PySem.W.mg_none_of X G z5, PySem.W.mg_none_of X G z6, PySem.W.mg_none_of X G z7, PySem.W.mg_none_of X G z8, PySem.W.mg_none_of X G z9, PySem.W.mg_none_of X G z10, PySem.W.mg_none_of X G z11, PySem.W.mg_none_of X G z12, PySem.W.mg_none_of X G z13, PySem.W.mg_none_of X G z14, PySem.W.mg_none_of X G z15, PySem.W.mg_none_of X G z16, PySem.W.mg_none_of X G z17, PySem.W.mg_none_of X G z18, PySem.W.mg_none_of X G z19⟩
  refine ⟨PySem.W.fnOf "law" "law" (defArgs sLaw) (defBody sLaw) (defScope sLaw) .none kV17 dc17 pm17 an17 cd17 ct17, fun s v => .of_eq rfl, fun base _ _ => ?_⟩
  have self : PySem.W.exmOne K (.ref cNoText) (.ref cNoText) = some true := PySem.W.exm_ref T_NoText.bC T_NoText.dC T_NoText.tC e7
  have h_rises : Has l.prog w K mg base 1 "rises" (SpR K RRises) := has_rises B F_rises b_rises m_rises
  have h_fits : Has l.prog w K mg base 15 "fits_game" (SpR K (RFits 14)) := has_fits_game (k := 1) B c_LONGEST F_fits_game b_fits_game m_fits_game h_rises 14 (by decide)
  have h_is : Has l.prog w K mg base 16 "is_game" (SpR K RIs) := has_is_game B F_is_game b_is_game m_is_game h_fits
  have h_lasting : Has l.prog w K mg base 14 "lasting" (SpR K (RLast 14)) := has_lasting (k := 0) B F_lasting b_lasting m_lasting 14
  have h_by : Has l.prog w K mg base 1 "game_by" (SpR K RGameBy) := has_game_by B F_game_by b_game_by m_game_by
  have h_words : Has l.prog w K mg base 14 "game_words" (SpR K (RWords 14)) := has_game_words (k := 0) B F_game_words b_game_words m_game_words 14
  have h_written : HasX l.prog w K mg base 17 "written" (SpX K (RWritten cNoGame)) := has_written B T_NoGame F_written b_written m_written h_is (h_words.mono (by decide))
  have h_from : HasX l.prog w K mg base 28 "read_from" (SpX K (RFrom cNoText 14)) := has_read_from (k := 0) B c_LONGEST T_NoText F_read_from b_read_from m_read_from F_read_games b_read_games m_read_games 14
  have h_read : HasX l.prog w K mg base 29 "read" (SpX K (RRead cNoText)) := has_read B T_NoText F_read b_read m_read (h_is.mono (by decide)) (h_words.mono (by decide)) h_from
  have h_cell : Has l.prog w K mg base 1 "_law_cell_at" (SpR K RCell) := has__law_cell_at B F__law_cell_at b__law_cell_at m__law_cell_at
  have h_mixed : Has l.prog w K mg base 2 "_law_mixed" (SpR K RMixed) := has__law_mixed B F__law_mixed b__law_mixed m__law_mixed h_cell
  have h_drawn : Has l.prog w K mg base 1 "_law_drawn" (SpR K RDrawn) := has__law_drawn B F__law_drawn b__law_drawn m__law_drawn
  have h_once : Has l.prog w K mg base 1 "_law_once" (SpR K ROnce) := has__law_once B F__law_once b__law_once m__law_once
  have h_lby : Has l.prog w K mg base 2 "_law_by" (SpR K RBy) := has__law_by B F__law_by b__law_by m__law_by h_once
  have h_game : Has l.prog w K mg base 7 "_law_game" (SpR K (RGame 5)) := has__law_game (k := 2) B F__law_game b__law_game m__law_game (h_drawn.mono (by decide)) h_lby 5 (by decide)
  have h_none : Has l.prog w K mg base 30 "_law_none" (SpR K RNone) := has__law_none B T_NoText self F__law_none b__law_none m__law_none h_read
  exact has_law (k := 30) B F_law (h_game.mono (by decide)) (h_mixed.mono (by decide)) (h_is.mono (by decide)) (h_lasting.mono (by decide)) (h_by.mono (by decide)) (h_written.mono (by decide)) (h_read.mono (by decide)) h_none
end LM
open PySem PySem.W PyProof.Rows
set_option maxHeartbeats 0 in
theorem PySem.Challenge.cw_lastmove_k04_whole_texts_of_moves_holds : PySem.Challenge.rw_lastmove_k04_whole_texts_of_moves.Holds := by
  w_on; o_law; k_head; (case hw => w_witness2)
  k_fill
  refine L2.walk_of (l := PySem.Challenge.rw_lastmove_k04_whole_texts_of_moves) (n := 63) (k := 31) (x := "_law_script") (CX := fun _ => L2.CX0) (sp := fun w => LM.SpR _ LM.RLaw) rfl (by decide) rfl ⟨rfl, by decide, by decide⟩ (fun w h Y => PySem.W.kIn_of Y) ?F (fun _ _ a ns hl _ hS => ⟨[.list (ns.map PyData.int)], .bool true, _, Evl.Ex.refl _, .cons (.lst hS (LM.ints_dp ns)) .nil, ⟨ns, rfl, rfl⟩, fun v H2 Hm2 g hv => LM.dp_bool hv⟩) (fun _ _ _ _ _ h => h)
  case F =>
    intro w mg fa h KX G hmg
    refine' LM.all_mk KX G hmg ?a0 ?l0 ?c0 ?k0 ?a1 ?l1 ?c1 ?k1 ?a2 ?l2 ?c2 ?k2 ?a3 ?l3 ?c3 ?k3 ?a4 ?l4 ?c4 ?k4 ?a5 ?l5 ?c5 ?k5 ?a6 ?l6 ?c6 ?k6 ?a7 ?l7 ?c7 ?k7 ?a8 ?l8 ?c8 ?k8 ?a9 ?l9 ?c9 ?k9 ?a10 ?l10 ?c10 ?k10 ?a11 ?l11 ?c11 ?k11 ?a12 ?l12 ?c12 ?k12 ?a13 ?l13 ?c13 ?k13 ?a14 ?l14 ?c14 ?k14 ?a15 ?l15 ?c15 ?k15 ?a16 ?l16 ?c16 ?k16 ?a17 ?l17 ?c17 ?k17 ?cst0 ?z0 ?z1 ?z2 ?z3 ?z4 ?z5 ?z6 ?z7 ?z8 ?z9 ?z10 ?z11 ?z12 ?z13 ?z14 ?z15 ?z16 ?z17 ?z18 ?z19 ?gaNoGame ?gkNoGame ?gxNoGame ?gbNoGame ?gtNoGame ?gdNoGame ?gaNoText ?gkNoText ?gxNoText ?gbNoText ?gtNoText ?gdNoText ?e7
    (case a0 => k_is); (case l0 => k_is); (case c0 => k_is); (case k0 => k_is)
    (case a1 => k_is); (case l1 => k_is); (case c1 => k_is); (case k1 => k_is)
    (case a2 => k_is); (case l2 => k_is); (case c2 => k_is); (case k2 => k_is)
    (case a3 => k_is); (case l3 => k_is); (case c3 => k_is); (case k3 => k_is)
    (case a4 => k_is); (case l4 => k_is); (case c4 => k_is); (case k4 => k_is)
    (case a5 => k_is); (case l5 => k_is); (case c5 => k_is); (case k5 => k_is)
    (case a6 => k_is); (case l6 => k_is); (case c6 => k_is); (case k6 => k_is)
    (case a7 => k_is); (case l7 => k_is); (case c7 => k_is); (case k7 => k_is)
    (case a8 => k_is); (case l8 => k_is); (case c8 => k_is); (case k8 => k_is)
    (case a9 => k_is); (case l9 => k_is); (case c9 => k_is); (case k9 => k_is)
    (case a10 => k_is); (case l10 => k_is); (case c10 => k_is); (case k10 => k_is)
    (case a11 => k_is); (case l11 => k_is); (case c11 => k_is); (case k11 => k_is)
    (case a12 => k_is); (case l12 => k_is); (case c12 => k_is); (case k12 => k_is)
    (case a13 => k_is); (case l13 => k_is); (case c13 => k_is); (case k13 => k_is)
    (case a14 => k_is); (case l14 => k_is); (case c14 => k_is); (case k14 => k_is)
    (case a15 => k_is); (case l15 => k_is); (case c15 => k_is); (case k15 => k_is)
    (case a16 => k_is); (case l16 => k_is); (case c16 => k_is); (case k16 => k_is)
    (case a17 => k_is); (case l17 => k_is); (case c17 => k_is); (case k17 => k_is)
    (case cst0 => k_is)
    (case z0 => k_is); (case z1 => k_is); (case z2 => k_is); (case z3 => k_is); (case z4 => k_is); (case z5 => k_is); (case z6 => k_is); (case z7 => k_is); (case z8 => k_is); (case z9 => k_is); (case z10 => k_is); (case z11 => k_is); (case z12 => k_is); (case z13 => k_is); (case z14 => k_is); (case z15 => k_is); (case z16 => k_is); (case z17 => k_is); (case z18 => k_is); (case z19 => k_is)
    (case gaNoGame => k_is); (case gkNoGame => k_is); (case gxNoGame => k_exc); (case gbNoGame => k_is); (case gtNoGame => k_is); (case gdNoGame => k_is)
    (case gaNoText => k_is); (case gkNoText => k_is); (case gxNoText => k_exc); (case gbNoText => k_is); (case gtNoText => k_is); (case gdNoText => k_is)
    (case e7 => first | rfl | k_is | decide +kernel)
