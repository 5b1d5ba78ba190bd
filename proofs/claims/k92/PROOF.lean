import PyProof.Rows.All
import Wide.All
import OpenK.AllK
import Wide.FinOn
import KE.SortData
import KE.SortKeyHeap
import HandS.Base
import HandS.Call
import HandS.List
import HandS.Comp
import HandS.Ends
import HandS.Dict
import HandS.Iter
import HandS.More
import HandS.Text
import HandS.Words
import HandS.WordsList
import HandS.Defaults
import HandS.Zip
import HandS.Star
import HandS.Flow
import HandS.Deep
import HandS.Lambda
import HandS.EndTab
import HandS.HeadWalk
import HandS.TupAny
import HandS.Style
import HandS.IsInst
import HandS.DictTup
import HandS.DictComp
import HandS.Set
import HandS.SetFor
import HandS.TupSets
import KE.DataEq
import HandS.BoundList
import KE.LtSeq
import KE.SortCalls
import HandS.SetTxt0
import HandS.Strs
import KE.GoesEnum
import KE.KDictZip
import HandS.Keys
import KE.KDictPairs
import HandS.SortKw
import HandS.ExcValue
import KE.KStateDown
import HandS.Head0
import HandS.Head1
import HandS.Head2
import HandS.HeadEnd
import HandS.HeadHook1
import HandS.HeadHook2
import HandS.HeadHook3
import HandS.HeadHook4
import PySem.Challenge.RW_vaultkeys_k92_whole_padlocks_behind_loss
/-! ## VkCore -/
set_option Elab.async false
set_option linter.all false
set_option maxRecDepth 100000
set_option maxHeartbeats 1000000
/-! THE DATA LAYER: what a piece of syntax does, told over data (PyData) by slot; heaps only grow. -/
namespace Vk
open PySem PySem.Spec PyProof.Rows L2 LamX StX

/-! ### heaps that grow -/
abbrev TabL : Type := List (Addr × Str)
abbrev DEnv : Type := List (Option PyData)
def Gr (T : TabL) (H H' : Hp) : Prop := ExtN H H' ∧ (Tabs T H → Tabs T H')
theorem Gr.refl (T : TabL) (H : Hp) : Gr T H H := ⟨ExtN.refl H, id⟩
theorem Gr.trans {T : TabL} {H H1 H2 : Hp} (a : Gr T H H1) (b : Gr T H1 H2) : Gr T H H2 := ⟨a.1.trans b.1, fun t => b.2 (a.2 t)⟩
theorem same_upd {H : Hp} {p : Addr} {o : HO} (h : H p = none) : ∀ b u, H b = some u → upd H p o b = some u := fun b u e => by
  rw [upd_ne (ne_of_none e h)]; exact e
theorem Gr.of {T : TabL} {H H' : Hp} (h : ∀ b u, H b = some u → H' b = some u) : Gr T H H' := ⟨ExtN.of h, fun t => t.ext h⟩
theorem Gr.upd {T : TabL} {H : Hp} {p : Addr} {o : HO} (h : H p = none) : Gr T H (upd H p o) := Gr.of (same_upd h)
/-- a part of the heap is not looked at -/
def hid (H : Hp) (M : List Addr) : Hp := fun a => if a ∈ M then none else H a
theorem hid_some {H : Hp} {M : List Addr} {a : Addr} {o : HO} (h : hid H M a = some o) : a ∉ M ∧ H a = some o := by
  unfold hid at h
  by_cases e : a ∈ M
  · rw [if_pos e] at h; cases h
  · rw [if_neg e] at h; exact ⟨e, h⟩
theorem hid_of {H : Hp} {M : List Addr} {a : Addr} {o : HO} (e : a ∉ M) (h : H a = some o) : hid H M a = some o := by
  unfold hid; rw [if_neg e]; exact h
theorem hid_nil (H : Hp) : hid H [] = H := by funext a; unfold hid; rw [if_neg (by simp)]

/-! ### what a value reads as -/
mutual
inductive IsD (K : PySem.W.Frag) (H : Hp) : V → PyData → Prop
  | non : IsD K H .non .none
  | bl (b : Bool) : IsD K H (.bl b) (.bool b)
  | int (i : Int) : IsD K H (.int i) (.int i)
  | str (x : Str) : IsD K H (.str x) (.str x)
  | lst {a : Addr} {xs : List V} {ds : List PyData} : H a = some (.lst xs) → IsDs K H xs ds → IsD K H (.ref a) (.list ds)
  | tup {a : Addr} {xs : List V} {ds : List PyData} : H a = some (.tup xs) → IsDs K H xs ds → IsD K H (.ref a) (.tuple ds)
  | dik {a : Addr} {o : Obj} {ks : List Str} {vs : List V} {ds : List PyData} : H a = some (.frz o (.dK ((ks.map Sum.inr).zip vs))) → ks.length = vs.length → IsDs K H vs ds → IsD K H (.ref a) (.dict ((ks.map PyData.str).zip ds))
  | dit {a : Addr} {o : Obj} {ps : List (List Str × Bool)} : H a = some (.frz o (.dT (ps.map fun p => (p.1.map Sum.inr, V.bl p.2)))) → IsD K H (.ref a) (.dict (ps.map fun p => (PyData.tuple (p.1.map PyData.str), PyData.bool p.2)))
inductive IsDs (K : PySem.W.Frag) (H : Hp) : List V → List PyData → Prop
  | nil : IsDs K H [] []
  | cons {v : V} {vs : List V} {d : PyData} {ds : List PyData} : IsD K H v d → IsDs K H vs ds → IsDs K H (v :: vs) (d :: ds)
end
section
variable {K : PySem.W.Frag} {H H' : Hp} {T : TabL} {M : List Addr}
mutual
theorem IsD.mono (k : ∀ b o, H b = some o → (∀ ps, o ≠ .tbl ps) → H' b = some o) : ∀ {v : V} {d : PyData}, IsD K H v d → IsD K H' v d
  | _, _, .non => .non
  | _, _, .bl b => .bl b
  | _, _, .int i => .int i
  | _, _, .str x => .str x
  | _, _, .lst h t => .lst (k _ _ h fun ps z => by cases z) (IsDs.mono k t)
  | _, _, .tup h t => .tup (k _ _ h fun ps z => by cases z) (IsDs.mono k t)
  | _, _, .dik h e t => .dik (k _ _ h fun ps z => by cases z) e (IsDs.mono k t)
  | _, _, .dit h => .dit (k _ _ h fun ps z => by cases z)
theorem IsDs.mono (k : ∀ b o, H b = some o → (∀ ps, o ≠ .tbl ps) → H' b = some o) : ∀ {vs : List V} {ds : List PyData}, IsDs K H vs ds → IsDs K H' vs ds
  | _, _, .nil => .nil
  | _, _, .cons h t => .cons (IsD.mono k h) (IsDs.mono k t)
end
theorem hid_gr (g : Gr T H H') : ∀ b o, hid H M b = some o → (∀ ps, o ≠ .tbl ps) → hid H' M b = some o := fun b o h n => by
  obtain ⟨h1, h2⟩ := hid_some h
  exact hid_of h1 (g.1 _ _ h2 n)
theorem IsD.gr {v : V} {d : PyData} (h : IsD K (hid H M) v d) (g : Gr T H H') : IsD K (hid H' M) v d := h.mono (hid_gr g)
theorem IsDs.gr {v : List V} {d : List PyData} (h : IsDs K (hid H M) v d) (g : Gr T H H') : IsDs K (hid H' M) v d := h.mono (hid_gr g)
theorem hid_less {M' : List Addr} (s : ∀ a ∈ M', a ∈ M) : ∀ b o, hid H M b = some o → (∀ ps, o ≠ .tbl ps) → hid H M' b = some o := fun b o h n => by
  obtain ⟨h1, h2⟩ := hid_some h
  exact hid_of (fun z => h1 (s _ z)) h2
theorem IsD.less {M' : List Addr} {v : V} {d : PyData} (h : IsD K (hid H M) v d) (s : ∀ a ∈ M', a ∈ M) : IsD K (hid H M') v d := h.mono (hid_less s)
theorem IsDs.less {M' : List Addr} {v : List V} {d : List PyData} (h : IsDs K (hid H M) v d) (s : ∀ a ∈ M', a ∈ M) : IsDs K (hid H M') v d := h.mono (hid_less s)
theorem IsD.all {v : V} {d : PyData} (h : IsD K (hid H M) v d) : IsD K H v d := by
  have := h.less (M' := []) (fun _ z => absurd z (by simp))
  rwa [hid_nil] at this
theorem IsDs.all {v : List V} {d : List PyData} (h : IsDs K (hid H M) v d) : IsDs K H v d := by
  have := h.less (M' := []) (fun _ z => absurd z (by simp))
  rwa [hid_nil] at this
theorem IsDs.length : ∀ {vs : List V} {ds : List PyData}, IsDs K H vs ds → vs.length = ds.length
  | _, _, .nil => rfl
  | _, _, .cons _ t => by rw [List.length_cons, List.length_cons, IsDs.length t]
theorem IsDs.get : ∀ {vs : List V} {ds : List PyData} {i : Nat} {v : V}, IsDs K H vs ds → vs[i]? = some v → ∃ d, ds[i]? = some d ∧ IsD K H v d
  | _, _, i, v, .nil, h => by simp at h
  | _, _, 0, v, .cons h t, e => by simp at e; subst e; exact ⟨_, rfl, h⟩
  | _, _, i + 1, v, .cons h t, e => by
    obtain ⟨d, h1, h2⟩ := IsDs.get (i := i) t (by simpa using e)
    exact ⟨d, by simpa using h1, h2⟩
theorem IsDs.getD : ∀ {vs : List V} {ds : List PyData} {i : Nat} {d : PyData}, IsDs K H vs ds → ds[i]? = some d → ∃ v, vs[i]? = some v ∧ IsD K H v d
  | _, _, i, v, .nil, h => by simp at h
  | _, _, 0, v, .cons h t, e => by simp at e; subst e; exact ⟨_, rfl, h⟩
  | _, _, i + 1, v, .cons h t, e => by
    obtain ⟨d, h1, h2⟩ := IsDs.getD (i := i) t (by simpa using e)
    exact ⟨d, by simpa using h1, h2⟩
theorem IsDs.append : ∀ {vs ws : List V} {ds es : List PyData}, IsDs K H vs ds → IsDs K H ws es → IsDs K H (vs ++ ws) (ds ++ es)
  | _, _, _, _, .nil, h => h
  | _, _, _, _, .cons h t, h' => .cons h (IsDs.append t h')
theorem IsDs.snoc {vs : List V} {ds : List PyData} {v : V} {d : PyData} (h : IsDs K H vs ds) (h' : IsD K H v d) : IsDs K H (vs ++ [v]) (ds ++ [d]) := h.append (.cons h' .nil)
theorem IsDs.strs : ∀ {vs : List V} {xs : List Str}, IsDs K H vs (xs.map PyData.str) → vs = xs.map V.str
  | _, [], h => by cases h; rfl
  | _, x :: xs, h => by
    have h' : IsDs K H _ (PyData.str x :: xs.map PyData.str) := h
    cases h' with
    | cons h1 h2 => cases h1; rw [IsDs.strs h2]; rfl
theorem IsDs.of_strs : ∀ (xs : List Str), IsDs K H (xs.map V.str) (xs.map PyData.str)
  | [] => .nil
  | x :: xs => .cons (.str x) (IsDs.of_strs xs)
theorem IsDs.bools : ∀ {vs : List V} {xs : List Bool}, IsDs K H vs (xs.map PyData.bool) → vs = xs.map V.bl
  | _, [], h => by cases h; rfl
  | _, x :: xs, h => by
    have h' : IsDs K H _ (PyData.bool x :: xs.map PyData.bool) := h
    cases h' with
    | cons h1 h2 => cases h1; rw [IsDs.bools h2]; rfl
theorem IsDs.of_ints : ∀ (xs : List Int), IsDs K H (xs.map V.int) (xs.map PyData.int)
  | [] => .nil
  | x :: xs => .cons (.int x) (IsDs.of_ints xs)
/-- towards the library's reading -/
def noDict : PyData → Bool
  | .dict _ => false
  | .list xs => noDictAll xs
  | .tuple xs => noDictAll xs
  | _ => true
where noDictAll : List PyData → Bool
  | [] => true
  | x :: xs => noDict x && noDictAll xs
mutual
theorem IsD.dp : ∀ {v : V} {d : PyData}, IsD K H v d → noDict d = true → Dp K H v d
  | _, _, .non, _ => .non
  | _, _, .bl b, _ => .bl b
  | _, _, .int i, _ => .int i
  | _, _, .str x, _ => .str x
  | _, _, .lst h t, n => .lst (SqL.of h) (IsDs.dps t (by simpa [noDict] using n))
  | _, _, .tup h t, n => .tup (SqT.of h) (IsDs.dps t (by simpa [noDict] using n))
  | _, _, .dik h e t, n => by simp [noDict] at n
  | _, _, .dit h, n => by simp [noDict] at n
theorem IsDs.dps : ∀ {vs : List V} {ds : List PyData}, IsDs K H vs ds → noDict.noDictAll ds = true → DpAll K H vs ds
  | _, _, .nil, _ => .nil
  | _, _, .cons h t, n => by
    simp only [noDict.noDictAll, Bool.and_eq_true] at n
    exact .cons (IsD.dp h n.1) (IsDs.dps t n.2)
end
end

/-! ### the slots' data -/
/-- neither a code table nor a tuple -/
def Nt (o : HO) : Prop := (∀ ps, o ≠ .tbl ps) ∧ ∀ xs, o ≠ .tup xs
theorem nt_lst {xs : List V} : Nt (.lst xs) := ⟨(fun ps z => by cases z), (fun ys z => by cases z)⟩
structure Sat (K : PySem.W.Frag) (T : TabL) (M : List Addr) (H : Hp) (σ : L2.St) (ρ : DEnv) : Prop where
  tabs : Tabs T H
  msk : ∀ a ∈ M, ∃ o, H a = some o ∧ Nt o
  len : σ.length = ρ.length
  slot : ∀ (i : Nat) d, ρ[i]? = some (some d) → ∃ v, σ[i]? = some (some v) ∧ IsD K (hid H M) v d
section
variable {K : PySem.W.Frag} {H H' : Hp} {T : TabL} {M : List Addr} {σ : L2.St} {ρ : DEnv}
theorem Sat.gr (S : Sat K T M H σ ρ) (g : Gr T H H') : Sat K T M H' σ ρ where
  tabs := g.2 S.tabs
  msk := fun a ha => let ⟨o, h1, h2⟩ := S.msk a ha; ⟨o, g.1 _ _ h1 h2.1, h2⟩
  len := S.len
  slot := fun i d e => let ⟨v, h1, h2⟩ := S.slot i d e; ⟨v, h1, h2.gr g⟩
theorem Sat.fresh (S : Sat K T M H σ ρ) {p : Addr} (h : H p = none) : p ∉ M := fun z => by
  obtain ⟨o, e, _⟩ := S.msk p z
  rw [h] at e; cases e
theorem msk_fresh (S : ∀ a ∈ M, ∃ o, H a = some o ∧ Nt o) {p : Addr} (h : H p = none) : p ∉ M := fun z => by
  obtain ⟨o, e, _⟩ := S p z
  rw [h] at e; cases e
theorem Sat.set (S : Sat K T M H σ ρ) (i : Nat) {v : V} {d : PyData} (h : IsD K (hid H M) v d) : Sat K T M H (σ.set i (some v)) (ρ.set i (some d)) where
  tabs := S.tabs
  msk := S.msk
  len := by rw [List.length_set, List.length_set, S.len]
  slot := fun j e q => by
    by_cases hj : i = j
    · subst hj
      have hl : i < (ρ.set i (some d)).length := (List.getElem?_eq_some_iff.mp q).1
      rw [List.length_set] at hl
      rw [List.getElem?_set_self hl] at q
      cases q
      exact ⟨v, by rw [List.getElem?_set_self (by rw [S.len]; exact hl)], h⟩
    · rw [List.getElem?_set_ne hj] at q
      rw [List.getElem?_set_ne hj]
      exact S.slot j e q
/-- the slots forgotten -/
def wipeD (ρ : DEnv) : List Nat → DEnv
  | [] => ρ
  | v :: vs => (wipeD ρ vs).set v none
theorem Sat.setNone (S : Sat K T M H σ ρ) (i : Nat) (x : Option V) : Sat K T M H (σ.set i x) (ρ.set i none) where
  tabs := S.tabs
  msk := S.msk
  len := by rw [List.length_set, List.length_set, S.len]
  slot := fun j e q => by
    by_cases hj : i = j
    · subst hj
      have hl : i < (ρ.set i none).length := (List.getElem?_eq_some_iff.mp q).1
      rw [List.length_set] at hl
      rw [List.getElem?_set_self hl] at q
      cases q
    · rw [List.getElem?_set_ne hj] at q
      rw [List.getElem?_set_ne hj]
      exact S.slot j e q
theorem Sat.wipe (S : Sat K T M H σ ρ) : ∀ vs : List Nat, Sat K T M H (wipe σ vs) (wipeD ρ vs)
  | [] => S
  | v :: vs => (Sat.wipe S vs).setNone v none
/-- a new thing is masked too -/
theorem Sat.more (S : Sat K T M H σ ρ) {p : Addr} {o : HO} (h : H p = none) (ho : Nt o) : Sat K T (p :: M) (upd H p o) σ ρ where
  tabs := (Gr.upd (T := T) h).2 S.tabs
  msk := fun a ha => by
    rcases List.mem_cons.mp ha with rfl | ha
    · exact ⟨o, upd_same, ho⟩
    · obtain ⟨u, e, n⟩ := S.msk a ha
      exact ⟨u, same_upd h _ _ e, n⟩
  len := S.len
  slot := fun i d e => by
    obtain ⟨v, h1, h2⟩ := S.slot i d e
    refine ⟨v, h1, h2.mono fun b u q n => ?_⟩
    obtain ⟨q1, q2⟩ := hid_some q
    have hb : b ≠ p := ne_of_none q2 h
    exact hid_of (by simp only [List.mem_cons, not_or]; exact ⟨hb, q1⟩) (same_upd h _ _ q2)
end

/-! ### readings over data -/
abbrev RE : Type := DEnv → PyData → Prop
abbrev RA : Type := DEnv → List PyData → Prop
abbrev RB : Type := DEnv → Bool → Prop
def tD (K : PySem.W.Frag) (T : TabL) (R : RE) : TE := fun σ H Q => ∃ ρ d M, Sat K T M H σ ρ ∧ R ρ d ∧ ∀ v H', Gr T H H' → IsD K (hid H' M) v d → Q v H'
def tDA (K : PySem.W.Frag) (T : TabL) (R : RA) : TA := fun σ H Q => ∃ ρ ds M, Sat K T M H σ ρ ∧ R ρ ds ∧ ∀ vs H', Gr T H H' → IsDs K (hid H' M) vs ds → Q vs H'
def tDT (K : PySem.W.Frag) (T : TabL) (R : RB) : TT := fun σ H Q => ∃ ρ b M, Sat K T M H σ ρ ∧ R ρ b ∧ ∀ H', Gr T H H' → Q b H'
def DE (X : Cx) (T : TabL) (e : Expr) (R : RE) : Prop := PE X e (tD X.K T R)
def DA (X : Cx) (T : TabL) (es : List Expr) (R : RA) : Prop := PA X es (tDA X.K T R)
def DT (X : Cx) (T : TabL) (e : Expr) (R : RB) : Prop := PT X e (tDT X.K T R)
def DW (X : Cx) (T : TabL) (e : Expr) (R : RB) : Prop := PW X e (tDT X.K T R)
section
variable {X : Cx} {T : TabL}
theorem pe_weak {e : Expr} {t t' : TE} (h : PE X e t) (k : ∀ σ H Q, t' σ H Q → t σ H Q) : PE X e t' := ⟨fun pins s σ H Q I q => h.run pins s σ H Q I (k σ H Q q)⟩
theorem pa_weak {e : List Expr} {t t' : TA} (h : PA X e t) (k : ∀ σ H Q, t' σ H Q → t σ H Q) : PA X e t' := ⟨fun pos pins s σ H Q I q => h.run pos pins s σ H Q I (k σ H Q q)⟩
theorem pt_weak {e : Expr} {t t' : TT} (h : PT X e t) (k : ∀ σ H Q, t' σ H Q → t σ H Q) : PT X e t' := ⟨fun pins s σ H Q I q => h.run pins s σ H Q I (k σ H Q q)⟩
theorem pw_weak {e : Expr} {t t' : TT} (h : PW X e t) (k : ∀ σ H Q, t' σ H Q → t σ H Q) : PW X e t' := ⟨fun wh pins s σ H Q I q => h.run wh pins s σ H Q I (k σ H Q q)⟩
/-- one operand -/
theorem tD1 {K : PySem.W.Frag} {R : RE} {ρ : DEnv} {d : PyData} {M : List Addr} {H : Hp} {σ : L2.St} {Q : VK} (S : Sat K T M H σ ρ) (h : R ρ d) (k : ∀ v H', Gr T H H' → IsD K (hid H' M) v d → Q v H') : tD K T R σ H Q := ⟨ρ, d, M, S, h, k⟩
/-- two operands -/
theorem tD2 {K : PySem.W.Frag} {R R' : RE} {ρ : DEnv} {d e : PyData} {M : List Addr} {H : Hp} {σ : L2.St} {Q : V → V → Hp → Prop} (S : Sat K T M H σ ρ) (h : R ρ d) (h' : R' ρ e)
    (k : ∀ v u H', Gr T H H' → IsD K (hid H' M) v d → IsD K (hid H' M) u e → Q v u H') : tD K T R σ H fun v H1 => tD K T R' σ H1 fun u H2 => Q v u H2 :=
  tD1 S h fun v H1 g1 i1 => tD1 (S.gr g1) h' fun u H2 g2 i2 => k v u H2 (g1.trans g2) (i1.gr g2) i2

/-! ### names, constants -/
def rVar (i : Nat) : RE := fun ρ d => ρ[i]? = some (some d)
def rK (d : PyData) : RE := fun _ e => e = d
theorem de_var {i : Nat} {e : Expr} (h : PE X e (tVar i)) : DE X T e (rVar i) := pe_weak h fun σ H Q ⟨ρ, d, M, S, r, k⟩ => by
  obtain ⟨v, h1, h2⟩ := S.slot i d r
  exact ⟨v, h1, k v H (Gr.refl T H) h2⟩
theorem de_k {e : Expr} {v : V} {d : PyData} (h : PE X e (tC v)) (hd : ∀ H, IsD X.K H v d) : DE X T e (rK d) := pe_weak h fun σ H Q ⟨ρ, d', M, S, r, k⟩ => by
  have r' : d' = d := r
  subst r'
  exact k v H (Gr.refl T H) (hd _)
theorem de_int {i : Int} {j pos} : DE X T (.Constant (.int i) j pos) (rK (.int i)) := de_k pe_int fun _ => .int i
theorem de_bl {b : Bool} {j pos} : DE X T (.Constant (.bool b) j pos) (rK (.bool b)) := de_k pe_bl fun _ => .bl b
theorem de_non {j pos} : DE X T (.Constant .none j pos) (rK .none) := de_k pe_non fun _ => .non
theorem de_str {x : Str} {j pos} : DE X T (.Constant (.str x) j pos) (rK (.str x)) := de_k pe_str fun _ => .str x

/-! ### argument lists, displays -/
def rNil : RA := fun _ ds => ds = []
def rCons (R : RE) (A : RA) : RA := fun ρ ds => ∃ d es, R ρ d ∧ A ρ es ∧ ds = d :: es
def seqOf : PyData → Option (List PyData)
  | .list xs => some xs
  | .tuple xs => some xs
  | _ => none
def rStar (R : RE) (A : RA) : RA := fun ρ ds => ∃ d xs es, R ρ d ∧ seqOf d = some xs ∧ A ρ es ∧ ds = xs ++ es
theorem da_nil : DA X T [] rNil := pa_weak pa_nil fun σ H Q ⟨ρ, d, M, S, r, k⟩ => by
  have r' : d = [] := r
  subst r'
  exact k [] H (Gr.refl T H) .nil
theorem da_cons {e : Expr} {es : List Expr} {R : RE} {A : RA} (h : DE X T e R) (t : DA X T es A) (hs : starEach (e :: es) X.env = (false, eval e X.env) :: starEach es X.env := by rfl) : DA X T (e :: es) (rCons R A) :=
  pa_weak (pa_cons h t hs) fun σ H Q ⟨ρ, ds, M, S, ⟨d, es, r1, r2, e⟩, k⟩ => by
    subst e
    exact tD1 S r1 fun v H1 g1 i1 => ⟨ρ, es, M, S.gr g1, r2, fun vs H2 g2 i2 => k _ H2 (g1.trans g2) (.cons (i1.gr g2) i2)⟩
theorem seq_parts {K : PySem.W.Frag} {H : Hp} {v : V} {d : PyData} {xs : List PyData} (h : IsD K H v d) (e : seqOf d = some xs) : ∃ a vs, v = .ref a ∧ (H a = some (.tup vs) ∨ H a = some (.lst vs)) ∧ IsDs K H vs xs := by
  cases h with
  | lst h t => cases e; exact ⟨_, _, rfl, .inr h, t⟩
  | tup h t => cases e; exact ⟨_, _, rfl, .inl h, t⟩
  | _ => cases e
theorem sq_all {K : PySem.W.Frag} {H : Hp} {M : List Addr} {a : Addr} {vs : List V} (h : hid H M a = some (.tup vs) ∨ hid H M a = some (.lst vs)) : SqT K H a vs ∨ SqL K H a vs :=
  h.imp (fun e => SqT.of (hid_some e).2) fun e => SqL.of (hid_some e).2
theorem da_star {e : Expr} {es : List Expr} {R : RE} {A : RA} {p : Pos} (h : DE X T e R) (t : DA X T es A) (hs : starEach (.Starred e p :: es) X.env = (true, eval e X.env) :: starEach es X.env := by rfl) : DA X T (.Starred e p :: es) (rStar R A) :=
  pa_weak (pa_star h t hs) fun σ H Q ⟨ρ, ds, M, S, ⟨d, xs, es, r1, e, r2, e2⟩, k⟩ => by
    subst e2
    refine tD1 S r1 fun v H1 g1 i1 => ?_
    obtain ⟨a, vs, rfl, q1, q2⟩ := seq_parts i1 e
    exact ⟨a, vs, rfl, sq_all q1, ρ, es, M, S.gr g1, r2, fun ws H2 g2 i2 => k _ H2 (g1.trans g2) ((q2.gr g2).append i2)⟩
def rTup (A : RA) : RE := fun ρ d => ∃ ds, A ρ ds ∧ ds.length ≤ 1000000 ∧ d = .tuple ds
def rLst (A : RA) : RE := fun ρ d => ∃ ds, A ρ ds ∧ ds.length ≤ 1000000 ∧ d = .list ds
theorem line_of {n : Nat} (h : n ≤ 1000000) : n ≤ sizeLine := by rw [sizeLine_eq]; omega
theorem new_tup {K : PySem.W.Frag} {H : Hp} {M : List Addr} {vs : List V} {ds : List PyData} {p : Addr} (hp : p ∉ M) (h : H p = none) (t : IsDs K (hid H M) vs ds) : IsD K (hid (upd H p (.tup vs)) M) (.ref p) (.tuple ds) :=
  .tup (hid_of hp upd_same) (t.gr (Gr.upd (T := []) h))
theorem new_lst {K : PySem.W.Frag} {H : Hp} {M : List Addr} {vs : List V} {ds : List PyData} {p : Addr} (hp : p ∉ M) (h : H p = none) (t : IsDs K (hid H M) vs ds) : IsD K (hid (upd H p (.lst vs)) M) (.ref p) (.list ds) :=
  .lst (hid_of hp upd_same) (t.gr (Gr.upd (T := []) h))
theorem de_tup {es : List Expr} {A : RA} {x1 pos} (h : DA X T es A) : DE X T (.Tuple es x1 pos) (rTup A) := pe_weak (pe_tup h) fun σ H Q ⟨ρ, d, M, S, ⟨ds, r, l, e⟩, k⟩ => by
  subst e
  refine ⟨ρ, ds, M, S, r, fun vs H1 g1 i1 => ⟨by rw [i1.length]; exact line_of l, fun p hp => ?_⟩⟩
  exact k _ _ (g1.trans (Gr.upd hp)) (new_tup ((S.gr g1).fresh hp) hp i1)
theorem de_lst {es : List Expr} {A : RA} {pos} (h : DA X T es A) : DE X T (.List es pos) (rLst A) := pe_weak (pe_lst h) fun σ H Q ⟨ρ, d, M, S, ⟨ds, r, l, e⟩, k⟩ => by
  subst e
  refine ⟨ρ, ds, M, S, r, fun vs H1 g1 i1 => ⟨by rw [i1.length]; exact line_of l, fun p hp => ?_⟩⟩
  exact k _ _ (g1.trans (Gr.upd hp)) (new_lst ((S.gr g1).fresh hp) hp i1)

/-! ### calls -/
/-- what a call by data makes of its arguments -/
abbrev Phi : Type := List PyData → PyData → Prop
/-- a def's promise over data -/
def spD (K : PySem.W.Frag) (T : TabL) (n : Nat) (φ : Phi) : Sp := fun vs H Q _ => vs.length = n ∧ ∃ ds d M, Tabs T H ∧ (∀ a ∈ M, ∃ o, H a = some o ∧ Nt o) ∧ IsDs K (hid H M) vs ds ∧ φ ds d ∧ ∀ v H', Gr T H H' → IsD K (hid H' M) v d → Q v H'
def rCall (φ : Phi) (A : RA) : RE := fun ρ d => ∃ ds, A ρ ds ∧ φ ds d
theorem de_call {CX : CXT} {k n : Nat} {f : Addr} {fd : FuncData} {ps : List Str} {φ : Phi} {E : XK} {x : Str} {p pos : Pos} {e : Expr} {es : List Expr} {A : RA}
    (F : FnOk X.prog X.w X.K X.mg X.base CX k f fd ps (spD X.K T n φ)) (hr : Room k X.A) (hg : Gl X x) (hm : X.mg x = some (.ref f)) (hk : PySem.W.keepIn X.K (.ref f) = true) (hb : Binds X.K fd ps []) (hx : Passes CX X E)
    (hn : ps.length = n) (ha : DA X T (e :: es) A) (hlen : ∀ ρ ds, A ρ ds → ds.length = n) (hdb : (x == ("__debug__" : Str)) = false := by decide) (he : starEach (e :: es) X.env = (false, eval e X.env) :: starEach es X.env := by rfl) (hpl : (backTo pos (starEach es X.env)).any (·.1) = false := by rfl) :
    DE X T (.Call (.Name x p) (e :: es) [] pos) (rCall φ A) :=
  pe_weak (pe_call (E := E) F hr hg hm hk hb .nil hx ha hdb he hpl) fun σ H Q ⟨ρ, d, M, S, ⟨ds, r, ph⟩, k⟩ => by
    refine ⟨ρ, ds, M, S, r, fun vs H1 g1 i1 => ?_⟩
    show spD X.K T n φ (vs ++ []) H1 Q E
    rw [List.append_nil]
    exact ⟨i1.length.trans (hlen _ _ r), ds, d, M, (S.gr g1).tabs, (S.gr g1).msk, i1, ph, fun v H2 g2 i2 => k v H2 (g1.trans g2) i2⟩
/-- a built-in by its rule over data -/
def CallD (X : Cx) (T : TabL) (f : Value) (φ : Phi) : Prop :=
  ∃ r, CallR X f r ∧ ∀ vs ds d M H Q, Tabs T H → (∀ a ∈ M, ∃ o, H a = some o ∧ Nt o) → IsDs X.K (hid H M) vs ds → φ ds d → (∀ v H', Gr T H H' → IsD X.K (hid H' M) v d → Q v H') → r vs H Q
theorem de_callB {id : String} {φ : Phi} {x : Str} {p pos : Pos} {e : Expr} {es : List Expr} {A : RA} (hc : CallD X T (.builtin id) φ) (hg : Gl X x) (hm : X.mg x = none) (hv : bootBuiltins x = some (.builtin id)) (ha : DA X T (e :: es) A) (hn : x ≠ "__name__" := by decide) (hdb : (x == ("__debug__" : Str)) = false := by decide)
    (he : starEach (e :: es) X.env = (false, eval e X.env) :: starEach es X.env := by rfl) (hpl : (backTo pos (starEach es X.env)).any (·.1) = false := by rfl) : DE X T (.Call (.Name x p) (e :: es) [] pos) (rCall φ A) := by
  obtain ⟨r, h1, h2⟩ := hc
  exact pe_weak (pe_callB h1 hg hm hv ha hn hdb he hpl) fun σ H Q ⟨ρ, d, M, S, ⟨ds, ra, ph⟩, k⟩ =>
    ⟨ρ, ds, M, S, ra, fun vs H1 g1 i1 => h2 vs ds d M H1 Q (S.gr g1).tabs (S.gr g1).msk i1 ph fun v H2 g2 i2 => k v H2 (g1.trans g2) i2⟩
theorem de_callTy {id : String} {φ : Phi} {x : Str} {p pos : Pos} {e : Expr} {es : List Expr} {A : RA} (hc : CallD X T (.type id) φ) (hg : Gl X x) (hm : X.mg x = none) (hv : bootBuiltins x = some (.type id)) (ha : DA X T (e :: es) A) (hn : x ≠ "__name__" := by decide) (hdb : (x == ("__debug__" : Str)) = false := by decide)
    (he : starEach (e :: es) X.env = (false, eval e X.env) :: starEach es X.env := by rfl) (hpl : (backTo pos (starEach es X.env)).any (·.1) = false := by rfl) : DE X T (.Call (.Name x p) (e :: es) [] pos) (rCall φ A) := by
  obtain ⟨r, h1, h2⟩ := hc
  exact pe_weak (pe_callTy h1 hg hm hv ha hn hdb he hpl) fun σ H Q ⟨ρ, d, M, S, ⟨ds, ra, ph⟩, k⟩ =>
    ⟨ρ, ds, M, S, ra, fun vs H1 g1 i1 => h2 vs ds d M H1 Q (S.gr g1).tabs (S.gr g1).msk i1 ph fun v H2 g2 i2 => k v H2 (g1.trans g2) i2⟩
end
end Vk

/-! ## VkOps -/
set_option Elab.async false
set_option linter.all false
set_option maxRecDepth 100000
set_option maxHeartbeats 1000000
/-! Operators, tests, subscripts, built-ins over data. -/
namespace Vk
open PySem PySem.Spec PyProof.Rows L2 LamX StX
section
variable {X : Cx} {T : TabL}
/-! ### two places -/
abbrev Phi2 : Type := PyData → PyData → PyData → Prop
def OpD (X : Cx) (T : TabL) (f : Value → Value → Sem Value) (φ : Phi2) : Prop :=
  ∃ r, OpR X f r ∧ ∀ x y d e z M H Q, Tabs T H → (∀ a ∈ M, ∃ o, H a = some o ∧ Nt o) → IsD X.K (hid H M) x d → IsD X.K (hid H M) y e → φ d e z → (∀ v H', Gr T H H' → IsD X.K (hid H' M) v z → Q v H') → r x y H Q
def rBin (φ : Phi2) (R R' : RE) : RE := fun ρ z => ∃ d e, R ρ d ∧ R' ρ e ∧ φ d e z
theorem opD_run {f : Value → Value → Sem Value} {φ : Phi2} {R R' : RE} {r : R2} {σ : L2.St} {H : Hp} {Q : VK}
    (h2 : ∀ x y d e z M H Q, Tabs T H → (∀ a ∈ M, ∃ o, H a = some o ∧ Nt o) → IsD X.K (hid H M) x d → IsD X.K (hid H M) y e → φ d e z → (∀ v H', Gr T H H' → IsD X.K (hid H' M) v z → Q v H') → r x y H Q)
    (q : tD X.K T (rBin φ R R') σ H Q) : tOp r (tD X.K T R) (tD X.K T R') σ H Q := by
  obtain ⟨ρ, z, M, S, ⟨d, e, r1, r2, ph⟩, k⟩ := q
  exact tD2 S r1 r2 fun v u H' g i1 i2 => h2 v u d e z M H' Q (S.gr g).tabs (S.gr g).msk i1 i2 ph fun w H2 g2 i => k w H2 (g.trans g2) i
theorem de_bin {op : Operator} {φ : Phi2} {R R' : RE} {a b : Expr} {pos : Pos} (ho : OpD X T (binaryOp op) φ) (ha : DE X T a R) (hb : DE X T b R') : DE X T (.BinOp a op b pos) (rBin φ R R') := by
  obtain ⟨r, h1, h2⟩ := ho
  exact pe_weak (pe_op h1 ha hb) fun σ H Q q => opD_run (f := binaryOp op) h2 q
theorem de_cmp {op : CmpOp} {φ : Phi2} {R R' : RE} {a b : Expr} {pos : Pos} (ho : OpD X T (compareOp op) φ) (ha : DE X T a R) (hb : DE X T b R') (hm : behindInMarks op b = false) : DE X T (.Compare a [op] [b] pos) (rBin φ R R') := by
  obtain ⟨r, h1, h2⟩ := ho
  exact pe_weak (pe_cmpR h1 ha hb hm) fun σ H Q q => opD_run (f := compareOp op) h2 q
/-- a value that is a bool, as a test -/
def rOf (R : RE) : RB := fun ρ c => R ρ (.bool c)
theorem tT_of {K : PySem.W.Frag} {R : RE} {t : TE} (h : ∀ σ H Q, tD K T R σ H Q → t σ H Q) {σ : L2.St} {H : Hp} {Q : Bool → Hp → Prop} (q : tDT K T (rOf R) σ H Q) : t σ H fun x H' => ∃ k, x = .bl k ∧ Q k H' := by
  obtain ⟨ρ, c, M, S, r, k⟩ := q
  refine h _ _ _ ⟨ρ, _, M, S, r, fun v H' g i => ?_⟩
  cases i
  exact ⟨c, rfl, k H' g⟩
theorem dt_cmp {op : CmpOp} {φ : Phi2} {R R' : RE} {a b : Expr} {pos : Pos} (ho : OpD X T (compareOp op) φ) (ha : DE X T a R) (hb : DE X T b R') (hm : behindInMarks op b = false) : DT X T (.Compare a [op] [b] pos) (rOf (rBin φ R R')) := by
  obtain ⟨r, h1, h2⟩ := ho
  exact pt_weak (pt_cmpR h1 ha hb hm) fun σ H Q q => tT_of (t := tOp r (tD X.K T R) (tD X.K T R')) (fun σ H Q q => opD_run (f := compareOp op) h2 q) q
theorem dt_val {R : RE} {e : Expr} (h : DE X T e R) (he : ∀ whole, isTrue e X.env whole = (do let v ← whole; standAt e.pos; holding [v] (truthy v)) := by intro _; rfl) : DT X T e (rOf R) :=
  pt_weak (pt_val h he) fun σ H Q q => tT_of (t := tD X.K T R) (fun _ _ _ q => q) q

/-! ### not, and, or -/
def rNot (B : RB) : RB := fun ρ c => B ρ (!c)
theorem dt_not {B : RB} {a : Expr} {pos : Pos} (h : DT X T a B) : DT X T (.UnaryOp .Not a pos) (rNot B) := pt_weak (pt_not h) fun σ H Q ⟨ρ, c, M, S, r, k⟩ =>
  ⟨ρ, !c, M, S, r, fun H' g => by show Q (!(!c)) H'; rw [Bool.not_not]; exact k H' g⟩
def rAnd (B C : RB) : RB := fun ρ c => ∃ b, B ρ b ∧ ((b = true ∧ C ρ c) ∨ (b = false ∧ c = false))
def rOr (B C : RB) : RB := fun ρ c => ∃ b, B ρ b ∧ ((b = false ∧ C ρ c) ∨ (b = true ∧ c = true))
theorem dw_and1 {B : RB} {a : Expr} {pos : Pos} (h : DT X T a B) : DW X T (.BoolOp .And [a] pos) B := pw_and1 h
theorem dw_or1 {B : RB} {a : Expr} {pos : Pos} (h : DT X T a B) : DW X T (.BoolOp .Or [a] pos) B := pw_or1 h
theorem dw_and {B C : RB} {a b : Expr} {rest : List Expr} {pos : Pos} (h : DT X T a B) (h' : DW X T (.BoolOp .And (b :: rest) pos) C) : DW X T (.BoolOp .And (a :: b :: rest) pos) (rAnd B C) := pw_weak (pw_and h h') fun σ H Q ⟨ρ, c, M, S, ⟨b, r1, r2⟩, k⟩ => by
  refine ⟨ρ, b, M, S, r1, fun H1 g1 => ?_⟩
  rcases r2 with ⟨e, r2⟩ | ⟨e, e2⟩
  · rw [if_pos e]; exact ⟨ρ, c, M, S.gr g1, r2, fun H2 g2 => k H2 (g1.trans g2)⟩
  · subst e; subst e2; rw [if_neg (by decide)]; exact k H1 g1
theorem dw_or {B C : RB} {a b : Expr} {rest : List Expr} {pos : Pos} (h : DT X T a B) (h' : DW X T (.BoolOp .Or (b :: rest) pos) C) : DW X T (.BoolOp .Or (a :: b :: rest) pos) (rOr B C) := pw_weak (pw_or h h') fun σ H Q ⟨ρ, c, M, S, ⟨b, r1, r2⟩, k⟩ => by
  refine ⟨ρ, b, M, S, r1, fun H1 g1 => ?_⟩
  rcases r2 with ⟨e, r2⟩ | ⟨e, e2⟩
  · subst e; rw [if_neg (by decide)]; exact ⟨ρ, c, M, S.gr g1, r2, fun H2 g2 => k H2 (g1.trans g2)⟩
  · subst e; subst e2; rw [if_pos rfl]; exact k H1 g1
theorem dw_pt {B : RB} {e : Expr} (h : DW X T e B) : DT X T e B := PW.pt h
/-- as values -/
def rAndV (R R' : RE) : RE := fun ρ d => ∃ b, R ρ (.bool b) ∧ ((b = true ∧ R' ρ d) ∨ (b = false ∧ d = .bool false))
theorem de_one {op : BoolOp} {R : RE} {a : Expr} {pos : Pos} (h : DE X T a R) : DE X T (.BoolOp op [a] pos) R := pe_one h
theorem de_and {R R' : RE} {a b : Expr} {rest : List Expr} {pos : Pos} (h : DE X T a R) (h' : DE X T (.BoolOp .And (b :: rest) pos) R') : DE X T (.BoolOp .And (a :: b :: rest) pos) (rAndV R R') := pe_weak (pe_and h h') fun σ H Q ⟨ρ, d, M, S, ⟨b, r1, r2⟩, k⟩ =>
  tD1 S r1 fun v H1 g1 i1 => by
    cases i1
    refine ⟨b, rfl, ?_⟩
    rcases r2 with ⟨e, r2⟩ | ⟨e, e2⟩
    · rw [if_pos e]; exact tD1 (S.gr g1) r2 fun u H2 g2 i2 => k u H2 (g1.trans g2) i2
    · subst e; subst e2; rw [if_neg (by decide)]; exact k _ H1 g1 (.bl false)
def rNotV (R : RE) : RE := fun ρ d => ∃ b, R ρ (.bool b) ∧ d = .bool (!b)
theorem de_not {R : RE} {a : Expr} {pos : Pos} (h : DE X T a R) : DE X T (.UnaryOp .Not a pos) (rNotV R) := pe_weak (pe_not h) fun σ H Q ⟨ρ, d, M, S, ⟨b, r1, e⟩, k⟩ =>
  tD1 S r1 fun v H1 g1 i1 => by
    cases i1
    subst e
    exact ⟨b, rfl, k _ H1 g1 (.bl _)⟩
def rIf (B : RB) (R R' : RE) : RE := fun ρ d => ∃ b, B ρ b ∧ ((b = true ∧ R ρ d) ∨ (b = false ∧ R' ρ d))
theorem de_if {B : RB} {R R' : RE} {c a b : Expr} {pos : Pos} (hc : DT X T c B) (ha : DE X T a R) (hb : DE X T b R') : DE X T (.IfExp c a b pos) (rIf B R R') := pe_weak (pe_ifExp hc ha hb) fun σ H Q ⟨ρ, d, M, S, ⟨b, r1, r2⟩, k⟩ =>
  ⟨ρ, b, M, S, r1, fun H1 g1 => by
    rcases r2 with ⟨e, r2⟩ | ⟨e, r2⟩
    · rw [if_pos e]; exact tD1 (S.gr g1) r2 fun u H2 g2 i2 => k u H2 (g1.trans g2) i2
    · subst e; rw [if_neg (by decide)]; exact tD1 (S.gr g1) r2 fun u H2 g2 i2 => k u H2 (g1.trans g2) i2⟩
/-- is None -/
def rIsN (R : RE) : RE := fun ρ d => ∃ e, R ρ e ∧ ((e = .none ∧ d = .bool true) ∨ (e ≠ .none ∧ d = .bool false))
theorem isD_non {K : PySem.W.Frag} {H : Hp} {v : V} {d : PyData} (h : IsD K H v d) : v = .non ↔ d = .none := by
  cases h <;> simp
theorem isN_run {K : PySem.W.Frag} {R : RE} {σ : L2.St} {H : Hp} {Q : VK} (q : tD K T (rIsN R) σ H Q) : tIsN (tD K T R) σ H Q := by
  obtain ⟨ρ, d, M, S, ⟨e, r1, r2⟩, k⟩ := q
  refine tD1 S r1 fun v H1 g1 i1 => ?_
  rcases r2 with ⟨h1, h2⟩ | ⟨h1, h2⟩
  · subst h2
    rw [decide_eq_true ((isD_non i1).2 h1)]; exact k _ H1 g1 (.bl _)
  · subst h2
    rw [decide_eq_false (fun z => h1 ((isD_non i1).1 z))]; exact k _ H1 g1 (.bl _)
theorem de_isN {R : RE} {a : Expr} {j pos pos'} (h : DE X T a R) : DE X T (.Compare a [.Is] [.Constant .none j pos'] pos) (rIsN R) := pe_weak (pe_cmp (pc_isN h) (by rfl)) fun σ H Q q => isN_run q
theorem dt_isN {R : RE} {a : Expr} {j pos pos'} (h : DE X T a R) : DT X T (.Compare a [.Is] [.Constant .none j pos'] pos) (rOf (rIsN R)) := pt_weak (pt_cmp (pc_isN h) (by rfl)) fun σ H Q q => tT_of (t := tIsN (tD X.K T R)) (fun σ H Q q => isN_run q) q

/-! ### comparisons by values -/
mutual
theorem noDict_plain : ∀ d : PyData, noDict d = true → d.plain = true
  | .none, _ => rfl
  | .bool _, _ => rfl
  | .int _, _ => rfl
  | .str _, _ => rfl
  | .list xs, h => by
    simp only [noDict] at h
    simp only [PyData.plain]
    exact noDicts_plain xs h
  | .tuple xs, h => by
    simp only [noDict] at h
    simp only [PyData.plain]
    exact noDicts_plain xs h
  | .dict _, h => by simp [noDict] at h
theorem noDicts_plain : ∀ xs : List PyData, noDict.noDictAll xs = true → PyData.plainAll xs = true
  | [], _ => rfl
  | x :: xs, h => by
    simp only [noDict.noDictAll, Bool.and_eq_true] at h
    simp only [PyData.plainAll, Bool.and_eq_true]
    exact ⟨noDict_plain x h.1, noDicts_plain xs h.2⟩
end
/-- of little depth, without dicts -/
def fit (d : PyData) : Bool := decide (d.depth ≤ 20) && noDict d
theorem fit_sh {d : PyData} (h : fit d = true) : d.depth ≤ 20 ∧ noDict d = true := let ⟨a, b⟩ := Bool.and_eq_true_iff.mp h; ⟨of_decide_eq_true a, b⟩
def phEq : Phi2 := fun d e z => fit d = true ∧ fit e = true ∧ z = .bool (PyData.eqv d e)
def phNe : Phi2 := fun d e z => fit d = true ∧ fit e = true ∧ z = .bool (!PyData.eqv d e)
theorem op_eqP (hu : X.A.units + 64 < cLine) : OpR X (compareOp .Eq) (fun x y H Q => ∃ d e, Dp X.K H x d ∧ Dp X.K H y e ∧ fit d = true ∧ fit e = true ∧ Q (.bl (PyData.eqv d e)) H) := by
  intro pins s σ H x y v u Q I rx ry h
  obtain ⟨d, e, hd, he, sd, se, q⟩ := h
  obtain ⟨as, r1⟩ := Dp.reads I d x v hd rx
  obtain ⟨bs, r2⟩ := Dp.reads I e y u he ry
  have := (fit_sh sd).1
  exact PySem.SeqAt.eq_plain r1 r2 (noDict_plain d (fit_sh sd).2) (noDict_plain e (fit_sh se).2) (by omega) ⟨.bl _, H, I, rfl, q⟩
theorem op_neP (hu : X.A.units + 64 < cLine) : OpR X (compareOp .NotEq) (fun x y H Q => ∃ d e, Dp X.K H x d ∧ Dp X.K H y e ∧ fit d = true ∧ fit e = true ∧ Q (.bl (!PyData.eqv d e)) H) := by
  intro pins s σ H x y v u Q I rx ry h
  obtain ⟨d, e, hd, he, sd, se, q⟩ := h
  obtain ⟨as, r1⟩ := Dp.reads I d x v hd rx
  obtain ⟨bs, r2⟩ := Dp.reads I e y u he ry
  have := (fit_sh sd).1
  exact PySem.SeqAt.ne_plain r1 r2 (noDict_plain d (fit_sh sd).2) (noDict_plain e (fit_sh se).2) (by omega) ⟨.bl _, H, I, rfl, q⟩
theorem od_eq (hu : X.A.units + 64 < cLine) : OpD X T (compareOp .Eq) phEq := ⟨_, op_eqP hu, fun x y d e z M H Q _ _ i1 i2 ⟨f1, f2, h⟩ k => by
  subst h
  exact ⟨d, e, i1.all.dp (fit_sh f1).2, i2.all.dp (fit_sh f2).2, f1, f2, k _ H (Gr.refl T H) (.bl _)⟩⟩
theorem od_ne (hu : X.A.units + 64 < cLine) : OpD X T (compareOp .NotEq) phNe := ⟨_, op_neP hu, fun x y d e z M H Q _ _ i1 i2 ⟨f1, f2, h⟩ k => by
  subst h
  exact ⟨d, e, i1.all.dp (fit_sh f1).2, i2.all.dp (fit_sh f2).2, f1, f2, k _ H (Gr.refl T H) (.bl _)⟩⟩
/-- x in xs, over a list or a tuple -/
def rInT (K : PySem.W.Frag) (neg : Bool) : R2 := fun x y H Q => ∃ d ds, Dp K H x d ∧ (Dp K H y (.list ds) ∨ Dp K H y (.tuple ds)) ∧ fit d = true ∧ noDict (.list ds) = true ∧ Q (.bl (if neg then !(ds.any fun z => PyData.eqv z d) else ds.any fun z => PyData.eqv z d)) H
theorem op_inT (hu : X.A.units + 65 < cLine) : OpR X (compareOp .In) (rInT X.K false) := by
  intro pins s σ H x y v u Q I rx ry h
  obtain ⟨d, ds, hd, he, sd, se, q⟩ := h
  obtain ⟨as, r1⟩ := Dp.reads I d x v hd rx
  have := (fit_sh sd).1
  have pl : PyData.plainAll ds = true := noDicts_plain ds (by simpa [noDict] using se)
  rcases he with he | he
  · obtain ⟨bs, r2⟩ := Dp.reads I (.list ds) y u he ry
    exact PySem.SeqAt.in_list_data r2 r1 pl (noDict_plain d (fit_sh sd).2) (by omega) ⟨.bl _, H, I, rfl, q⟩
  · obtain ⟨bs, r2⟩ := Dp.reads I (.tuple ds) y u he ry
    exact PySem.SeqAt.in_tuple_data r2 r1 pl (noDict_plain d (fit_sh sd).2) (by omega) ⟨.bl _, H, I, rfl, q⟩
theorem op_notInT (hu : X.A.units + 65 < cLine) : OpR X (compareOp .NotIn) (rInT X.K true) := by
  intro pins s σ H x y v u Q I rx ry h
  obtain ⟨d, ds, hd, he, sd, se, q⟩ := h
  obtain ⟨as, r1⟩ := Dp.reads I d x v hd rx
  have := (fit_sh sd).1
  have pl : PyData.plainAll ds = true := noDicts_plain ds (by simpa [noDict] using se)
  rcases he with he | he
  · obtain ⟨bs, r2⟩ := Dp.reads I (.list ds) y u he ry
    exact PySem.SeqAt.notIn_list_data r2 r1 pl (noDict_plain d (fit_sh sd).2) (by omega) ⟨.bl _, H, I, rfl, q⟩
  · obtain ⟨bs, r2⟩ := Dp.reads I (.tuple ds) y u he ry
    exact PySem.SeqAt.notIn_tuple_data r2 r1 pl (noDict_plain d (fit_sh sd).2) (by omega) ⟨.bl _, H, I, rfl, q⟩
def phIn (neg : Bool) : Phi2 := fun d e z => ∃ xs, seqOf e = some xs ∧ fit d = true ∧ noDict (.list xs) = true ∧ z = .bool (if neg then !(xs.any fun y => PyData.eqv y d) else xs.any fun y => PyData.eqv y d)
theorem seq_dp {K : PySem.W.Frag} {H : Hp} {v : V} {d : PyData} {xs : List PyData} (h : IsD K H v d) (e : seqOf d = some xs) (n : noDict (.list xs) = true) : Dp K H v (.list xs) ∨ Dp K H v (.tuple xs) := by
  have n' : noDict.noDictAll xs = true := by simpa [noDict] using n
  cases h with
  | lst h t => cases e; exact .inl (.lst (SqL.of h) (t.dps n'))
  | tup h t => cases e; exact .inr (.tup (SqT.of h) (t.dps n'))
  | _ => cases e
theorem od_in (hu : X.A.units + 65 < cLine) : OpD X T (compareOp .In) (phIn false) := ⟨_, op_inT hu, fun x y d e z M H Q _ _ i1 i2 ⟨xs, es, f1, f2, h⟩ k => by
  subst h
  exact ⟨d, xs, i1.all.dp (fit_sh f1).2, seq_dp i2.all es f2, f1, f2, k _ H (Gr.refl T H) (.bl _)⟩⟩
theorem od_notIn (hu : X.A.units + 65 < cLine) : OpD X T (compareOp .NotIn) (phIn true) := ⟨_, op_notInT hu, fun x y d e z M H Q _ _ i1 i2 ⟨xs, es, f1, f2, h⟩ k => by
  subst h
  exact ⟨d, xs, i1.all.dp (fit_sh f1).2, seq_dp i2.all es f2, f1, f2, k _ H (Gr.refl T H) (.bl _)⟩⟩
/-- whole numbers -/
def phI (p : Int → Int → Bool) : Phi2 := fun d e z => ∃ i j, d = .int i ∧ e = .int j ∧ z = .bool (p i j)
theorem od_int {f : Value → Value → Sem Value} {p : Int → Int → Bool} (h : OpR X f (rI0 fun i j => .bl (p i j))) : OpD X T f (phI p) := ⟨_, h, fun x y d e z M H Q _ _ i1 i2 ⟨i, j, e1, e2, e3⟩ k => by
  subst e1; subst e2; subst e3
  cases i1; cases i2
  exact ⟨i, j, rfl, rfl, k _ H (Gr.refl T H) (.bl _)⟩⟩
theorem od_gt : OpD X T (compareOp .Gt) (phI fun i j => decide (j < i)) := od_int op_gt
theorem od_lt : OpD X T (compareOp .Lt) (phI fun i j => decide (i < j)) := od_int op_lt
theorem od_ge : OpD X T (compareOp .GtE) (phI fun i j => decide (j ≤ i)) := od_int op_ge

/-! ### sums, products -/
def phAddI : Phi2 := fun d e z => ∃ i j, d = .int i ∧ e = .int j ∧ z = .int (i + j)
theorem od_addI : OpD X T (binaryOp .Add) phAddI := ⟨_, op_add, fun x y d e z M H Q _ _ i1 i2 ⟨i, j, e1, e2, e3⟩ k => by
  subst e1; subst e2; subst e3
  cases i1; cases i2
  exact ⟨i, j, rfl, rfl, k _ H (Gr.refl T H) (.int _)⟩⟩
def phAddS : Phi2 := fun d e z => ∃ x y : Str, d = .str x ∧ e = .str y ∧ x.length + y.length ≤ 1000000 ∧ z = .str (x ++ y)
theorem od_addS : OpD X T (binaryOp .Add) phAddS := ⟨_, op_add_str, fun x y d e z M H Q _ _ i1 i2 ⟨a, b, e1, e2, hl, e3⟩ k => by
  subst e1; subst e2; subst e3
  cases i1; cases i2
  exact ⟨a, b, rfl, rfl, line_of hl, k _ H (Gr.refl T H) (.str _)⟩⟩
def phAddL : Phi2 := fun d e z => ∃ xs ys, d = .list xs ∧ e = .list ys ∧ xs.length + ys.length ≤ 1000000 ∧ z = .list (xs ++ ys)
theorem od_addL : OpD X T (binaryOp .Add) phAddL := ⟨_, op_cat, fun x y d e z M H Q tb mk i1 i2 ⟨xs, ys, e1, e2, hl, e3⟩ k => by
  subst e1; subst e2; subst e3
  cases i1 with
  | lst h1 t1 =>
    cases i2 with
    | lst h2 t2 =>
      refine ⟨_, _, _, _, rfl, rfl, (hid_some h1).2, (hid_some h2).2, by rw [t1.length, t2.length]; exact line_of hl, fun p hp => ?_⟩
      exact k _ _ (Gr.upd hp) (new_lst (msk_fresh mk hp) hp (t1.append t2))⟩
def phAddT : Phi2 := fun d e z => ∃ xs ys, d = .tuple xs ∧ e = .tuple ys ∧ xs.length + ys.length ≤ 1000000 ∧ z = .tuple (xs ++ ys)
theorem isDs_nil {K : PySem.W.Frag} {H : Hp} {vs : List V} {ds : List PyData} (h : IsDs K H vs ds) : vs = [] ↔ ds = [] := by
  cases h <;> simp
theorem od_addT : OpD X T (binaryOp .Add) phAddT := ⟨_, op_catA, fun x y d e z M H Q tb mk i1 i2 ⟨xs, ys, e1, e2, hl, e3⟩ k => by
  subst e1; subst e2; subst e3
  cases i1 with
  | tup h1 t1 =>
    cases i2 with
    | tup h2 t2 =>
      refine ⟨_, _, _, _, rfl, rfl, SqT.of (hid_some h1).2, SqT.of (hid_some h2).2, by rw [t1.length, t2.length]; exact line_of hl, fun n => ?_, fun _ n => ?_, fun _ _ p hp => ?_⟩
      · have : xs = [] := (isDs_nil t1).1 n
        subst this
        exact k _ _ (Gr.refl T H) (.tup h2 t2)
      · have : ys = [] := (isDs_nil t2).1 n
        subst this
        rw [List.append_nil] at k
        exact k _ _ (Gr.refl T H) (.tup h1 t1)
      · exact k _ _ (Gr.upd hp) (new_tup (msk_fresh mk hp) hp (t1.append t2))⟩
def phMulL : Phi2 := fun d e z => ∃ xs, ∃ b : Bool, d = .list xs ∧ e = .int (if b then 1 else 0) ∧ xs.length ≤ 1000000 ∧ z = .list (if b then xs else [])
theorem od_mulL : OpD X T (binaryOp .Mult) phMulL := ⟨_, op_rep, fun x y d e z M H Q tb mk i1 i2 ⟨xs, b, e1, e2, hl, e3⟩ k => by
  subst e1; subst e2; subst e3
  cases i1 with
  | @lst l us _ h1 t1 =>
    cases i2
    cases b with
    | true =>
      refine ⟨_, 1, _, rfl, rfl, (hid_some h1).2, by decide, by decide, by rw [t1.length]; simpa using line_of hl, fun p hp => ?_⟩
      have e : (List.replicate (1 : Int).toNat us).flatten = us := by
        show ([us] : List (List V)).flatten = us
        simp
      rw [e]
      exact k _ _ (Gr.upd hp) (new_lst (msk_fresh mk hp) hp t1)
    | false =>
      refine ⟨_, 0, _, rfl, rfl, (hid_some h1).2, by decide, by decide, by simp, fun p hp => ?_⟩
      exact k _ _ (Gr.upd hp) (new_lst (msk_fresh mk hp) hp .nil)⟩

/-! ### subscripts -/
def phIx : Phi2 := fun d e z => ∃ xs, ∃ i : Nat, seqOf d = some xs ∧ e = .int i ∧ xs[i]? = some z
theorem de_ix {R R' : RE} {a b : Expr} {pos : Pos} (ha : DE X T a R) (hb : DE X T b R') (hs : PlainIx b) : DE X T (.Subscript a b pos) (rBin phIx R R') := pe_weak (pe_ix ix_seq ha hb hs) fun σ H Q ⟨ρ, z, M, S, ⟨d, e, r1, r2, xs, i, e1, e2, e3⟩, k⟩ => by
  refine tD2 S r1 r2 fun v u H' g i1 i2 => ?_
  subst e2
  cases i2
  obtain ⟨p, vs, rfl, hq, t⟩ := seq_parts i1 e1
  obtain ⟨w, hw, iw⟩ := t.getD e3
  rcases hq with hq | hq
  · exact .inr (.inl ⟨p, vs, i, w, rfl, rfl, SqT.of (hid_some hq).2, atI_nat hw, k w H' g iw⟩)
  · exact .inl ⟨p, vs, i, w, rfl, rfl, SqL.of (hid_some hq).2, atI_nat hw, k w H' g iw⟩

/-! ### built-ins -/
def phLen : Phi := fun ds z => ∃ d xs, ds = [d] ∧ seqOf d = some xs ∧ z = .int xs.length
theorem isDs_one {K : PySem.W.Frag} {H : Hp} {vs : List V} {d : PyData} (h : IsDs K H vs [d]) : ∃ v, vs = [v] ∧ IsD K H v d := by
  cases h with
  | cons h t => cases t; exact ⟨_, rfl, h⟩
theorem isDs_two {K : PySem.W.Frag} {H : Hp} {vs : List V} {d e : PyData} (h : IsDs K H vs [d, e]) : ∃ v u, vs = [v, u] ∧ IsD K H v d ∧ IsD K H u e := by
  cases h with
  | cons h t =>
    obtain ⟨u, rfl, h'⟩ := isDs_one t
    exact ⟨_, u, rfl, h, h'⟩
theorem cd_len : CallD X T (.builtin "len") phLen := ⟨_, call_len_seq, fun vs ds z M H Q tb mk i ⟨d, xs, e, e1, e2⟩ k => by
  subst e; subst e2
  obtain ⟨v, rfl, i1⟩ := isDs_one i
  obtain ⟨p, us, rfl, hq, t⟩ := seq_parts i1 e1
  refine ⟨p, us, rfl, (sq_all hq).symm, ?_⟩
  rw [t.length]
  exact k _ H (Gr.refl T H) (.int _)⟩
def phTuple : Phi := fun ds z => ∃ d xs, ds = [d] ∧ seqOf d = some xs ∧ z = .tuple xs
theorem cd_tuple : CallD X T (.type "tuple") phTuple := ⟨_, call_tuple_of, fun vs ds z M H Q tb mk i ⟨d, xs, e, e1, e2⟩ k => by
  subst e; subst e2
  obtain ⟨v, rfl, i1⟩ := isDs_one i
  cases i1 with
  | lst h t => cases e1; exact ⟨_, _, rfl, .inl ⟨SqL.of (hid_some h).2, fun p hp => k _ _ (Gr.upd hp) (new_tup (msk_fresh mk hp) hp t)⟩⟩
  | tup h t => cases e1; exact ⟨_, _, rfl, .inr ⟨SqT.of (hid_some h).2, k _ _ (Gr.refl T H) (.tup h t)⟩⟩
  | _ => cases e1⟩
def phList : Phi := fun ds z => ∃ d xs, ds = [d] ∧ seqOf d = some xs ∧ z = .list xs
theorem cd_list : CallD X T (.type "list") phList := ⟨_, call_list_of, fun vs ds z M H Q tb mk i ⟨d, xs, e, e1, e2⟩ k => by
  subst e; subst e2
  obtain ⟨v, rfl, i1⟩ := isDs_one i
  obtain ⟨p, us, rfl, hq, t⟩ := seq_parts i1 e1
  exact ⟨p, us, rfl, (sq_all hq).symm, fun p hp => k _ _ (Gr.upd hp) (new_lst (msk_fresh mk hp) hp t)⟩⟩
def phAny : Phi := fun ds z => ∃ bs : List Bool, ds = [.list (bs.map .bool)] ∧ z = .bool (bs.any id)
def phAll : Phi := fun ds z => ∃ bs : List Bool, ds = [.list (bs.map .bool)] ∧ z = .bool (bs.all id)
theorem cd_any (hc : X.calm = true) : CallD X T (.builtin "any") phAny := ⟨_, cr_any hc, fun vs ds z M H Q tb mk i ⟨bs, e, e2⟩ k => by
  subst e; subst e2
  obtain ⟨v, rfl, i1⟩ := isDs_one i
  cases i1 with
  | lst h t =>
    rw [t.bools] at h
    exact ⟨_, bs, rfl, SqL.of (hid_some h).2, k _ _ (Gr.refl T H) (.bl _)⟩⟩
theorem cd_all (hc : X.calm = true) : CallD X T (.builtin "all") phAll := ⟨_, cr_all hc, fun vs ds z M H Q tb mk i ⟨bs, e, e2⟩ k => by
  subst e; subst e2
  obtain ⟨v, rfl, i1⟩ := isDs_one i
  cases i1 with
  | lst h t =>
    rw [t.bools] at h
    exact ⟨_, bs, rfl, SqL.of (hid_some h).2, k _ _ (Gr.refl T H) (.bl _)⟩⟩
def phInt : Phi := fun ds z => (∃ b : Bool, ds = [.bool b] ∧ z = .int (if b then 1 else 0)) ∨ ∃ i : Int, ds = [.int i] ∧ z = .int i
theorem cd_int : CallD X T (.type "int") phInt := ⟨_, call_int1, fun vs ds z M H Q tb mk i h k => by
  rcases h with ⟨b, e, e2⟩ | ⟨b, e, e2⟩
  · subst e; subst e2
    obtain ⟨v, rfl, i1⟩ := isDs_one i
    cases i1
    exact .inr ⟨b, rfl, k _ _ (Gr.refl T H) (.int _)⟩
  · subst e; subst e2
    obtain ⟨v, rfl, i1⟩ := isDs_one i
    cases i1
    exact .inl ⟨b, rfl, k _ _ (Gr.refl T H) (.int _)⟩⟩
end
end Vk

/-! ## VkLoops -/
set_option Elab.async false
set_option linter.all false
set_option maxRecDepth 100000
set_option maxHeartbeats 1000000
/-! What is walked; comprehensions over data. -/
namespace Vk
open PySem PySem.Spec PyProof.Rows L2 LamX StX
/-! ### one masked heap within another -/
def Le (H : Hp) (M : List Addr) (H' : Hp) (M' : List Addr) : Prop := ∀ b o, hid H M b = some o → (∀ ps, o ≠ HO.tbl ps) → hid H' M' b = some o
theorem Le.refl (H : Hp) (M : List Addr) : Le H M H M := fun _ _ h _ => h
theorem Le.trans {H H1 H2 : Hp} {M M1 M2 : List Addr} (a : Le H M H1 M1) (b : Le H1 M1 H2 M2) : Le H M H2 M2 := fun c o h n => b c o (a c o h n) n
theorem Gr.le {T : TabL} {H H' : Hp} {M : List Addr} (g : Gr T H H') : Le H M H' M := hid_gr g
/-- behind a new thing at p, which is masked -/
theorem Le.new {T : TabL} {H H' : Hp} {M : List Addr} {p : Addr} (hp : H p = none) (g : Gr T H H') : Le H M H' (p :: M) := fun b o h n => by
  obtain ⟨h1, h2⟩ := hid_some h
  exact hid_of (by simp only [List.mem_cons, not_or]; exact ⟨ne_of_none h2 hp, h1⟩) (g.1 _ _ h2 n)
/-- not in use (a stale table may lie there) -/
def WF (H : Hp) (p : Addr) : Prop := ∀ o, H p = some o → ∃ ps, o = HO.tbl ps
theorem WF.of {T : TabL} {H H' : Hp} {p : Addr} (g : Gr T H H') (h : H' p = none) : WF H p := fun o e => Classical.byContradiction fun z => by
  have := g.1 _ _ e fun ps q => z ⟨ps, q⟩
  rw [h] at this; cases this
theorem WF.back {T : TabL} {H H' : Hp} {p : Addr} (g : Gr T H H') (h : WF H' p) : WF H p := fun o e => Classical.byContradiction fun z => by
  obtain ⟨ps, q⟩ := h _ (g.1 _ _ e fun ps q => z ⟨ps, q⟩)
  exact z ⟨ps, q⟩
theorem WF.msk {H : Hp} {p : Addr} {M : List Addr} (h : WF H p) (mk : ∀ a ∈ M, ∃ o, H a = some o ∧ Nt o) : p ∉ M := fun z => by
  obtain ⟨o, e, n⟩ := mk p z
  obtain ⟨ps, q⟩ := h o e
  exact n.1 ps q
section
variable {K : PySem.W.Frag} {T : TabL} {H H' : Hp} {M M' : List Addr} {σ : L2.St} {ρ : DEnv}
theorem IsD.le {v : V} {d : PyData} (h : IsD K (hid H M) v d) (l : Le H M H' M') : IsD K (hid H' M') v d := h.mono l
theorem IsDs.le {v : List V} {d : List PyData} (h : IsDs K (hid H M) v d) (l : Le H M H' M') : IsDs K (hid H' M') v d := h.mono l
abbrev MOk (M : List Addr) (H : Hp) : Prop := ∀ a ∈ M, ∃ o, H a = some o ∧ Nt o
theorem Sat.le (S : Sat K T M H σ ρ) (t : Tabs T H') (mk : MOk M' H') (l : Le H M H' M') : Sat K T M' H' σ ρ :=
  ⟨t, mk, S.len, fun i d e => let ⟨v, h1, h2⟩ := S.slot i d e; ⟨v, h1, h2.le l⟩⟩
theorem MOk.gr (mk : MOk M H) (g : Gr T H H') : MOk M H' := fun a ha => let ⟨o, h1, h2⟩ := mk a ha; ⟨o, g.1 _ _ h1 h2.1, h2⟩
/-- a list is written: the tables stay -/
theorem tabs_lst {D : Addr} {xs ys : List V} (h : H D = some (.lst xs)) (t : Tabs T H) : Tabs T (upd H D (.lst ys)) := fun p hp => by
  obtain ⟨ps, h1, h2, h3⟩ := t p hp
  have n1 : p.1 ≠ D := fun z => by rw [z, h] at h1; cases h1
  refine ⟨ps, by rw [upd_ne n1]; exact h1, h2, fun pos cv hc => ?_⟩
  obtain ⟨c, e1, e2⟩ := h3 pos cv hc
  have n2 : c ≠ D := fun z => by rw [z, h] at e2; unfold CodeO at e2; cases e2
  exact ⟨c, e1, by rw [upd_ne n2]; exact e2⟩
theorem hid_upd {D : Addr} {o : HO} (h : D ∈ M) : hid (upd H D o) M = hid H M := by
  funext b
  unfold hid
  by_cases e : b ∈ M
  · rw [if_pos e, if_pos e]
  · rw [if_neg e, if_neg e, upd_ne (fun z => e (by rw [z]; exact h))]

/-! ### what is walked -/
def ItIs (K : PySem.W.Frag) (T : TabL) (M : List Addr) (J : It) (ds : List PyData) (H0 : Hp) : Prop := ∀ H M', MOk M' H → Le H0 M H M' →
  (∀ i d, ds[i]? = some d → J.go i H ∧ ∀ x H', J.yld i H x H' → Gr T H H' ∧ IsD K (hid H' M') x d) ∧ J.stop ds.length H
def iD (K : PySem.W.Frag) (T : TabL) (I : RA) : TI := fun σ H R => ∃ ρ ds M, Sat K T M H σ ρ ∧ I ρ ds ∧ ∀ J H', Gr T H H' → ds.length ≤ sizeLine → ItIs K T M J ds H' → R J H'
def DI (X : Cx) (T : TabL) (tg e : Expr) (I : RA) : Prop := PI X tg e (iD X.K T I)
def Sized (H : Hp) (n : Nat) : Prop := (∃ a xs, H a = some (.lst xs) ∧ xs.length = n) ∨ (∃ a xs, H a = some (.tup xs) ∧ xs.length = n) ∨ (∃ a kvs, H a = some (.dT kvs) ∧ kvs.length = n) ∨ n ≤ 1000
theorem Sized.le {X : Cx} {pins : List (Addr × Obj)} {s : Shared} {n : Nat} (I : Inv X pins σ H s) (h : Sized H n) : n ≤ sizeLine := by
  rcases h with ⟨a, xs, h, e⟩ | ⟨a, xs, h, e⟩ | ⟨a, xs, h, e⟩ | h
  · rw [← e]; exact (I.hok a _ h).1
  · rw [← e]; exact (I.hok a _ h).1
  · rw [← e]; exact (I.hok a _ h).1
  · rw [sizeLine_eq]; omega
end
section
variable {X : Cx} {T : TabL}
theorem pi_sized {tg e : Expr} {wi wi' : TI} (h : PI X tg e wi) (k : ∀ σ H R, wi' σ H R → wi σ H fun J H' => ∃ n, Sized H' n ∧ (n ≤ sizeLine → R J H')) : PI X tg e wi' :=
  ⟨fun pins s σ H R I q => thn (h.run pins s σ H _ I (k σ H R q)) fun v s1 h1 => thn h1 fun itv s2 ⟨it, fp, tn, J, H', e1, I2, T1, t0, f, n, sz, q2⟩ => ⟨it, fp, tn, J, H', e1, I2, T1, t0, f, q2 (sz.le I2)⟩⟩
/-- a list or a tuple -/
def rSeq (R : RE) : RA := fun ρ ds => ∃ d, R ρ d ∧ seqOf d = some ds
theorem itl_is {K : PySem.W.Frag} {M : List Addr} {H0 : Hp} {a : Addr} {vs : List V} {ds : List PyData} (h : hid H0 M a = some (.lst vs)) (t : IsDs K (hid H0 M) vs ds) : ItIs K T M (Itl K a) ds H0 := fun H M' mk l => by
  have h' : H a = some (.lst vs) := (hid_some (l _ _ h fun ps z => by cases z)).2
  refine ⟨fun i d e => ?_, ⟨vs, SqL.of h', by rw [t.length]; exact Nat.le_refl _⟩⟩
  obtain ⟨v, e1, e2⟩ := t.getD e
  refine ⟨⟨vs, v, SqL.of h', e1⟩, fun x H' y => ?_⟩
  obtain ⟨y1, y2⟩ := y
  subst y1
  have e3 := y2 _ (SqL.of h')
  rw [e1] at e3
  cases e3
  exact ⟨Gr.refl T _, e2.le l⟩
theorem itt_is {K : PySem.W.Frag} {M : List Addr} {H0 : Hp} {a : Addr} {vs : List V} {ds : List PyData} (h : hid H0 M a = some (.tup vs)) (t : IsDs K (hid H0 M) vs ds) : ItIs K T M (Itt K a) ds H0 := fun H M' mk l => by
  have h' : H a = some (.tup vs) := (hid_some (l _ _ h fun ps z => by cases z)).2
  refine ⟨fun i d e => ?_, ⟨vs, SqT.of h', by rw [t.length]; exact Nat.le_refl _⟩⟩
  obtain ⟨v, e1, e2⟩ := t.getD e
  refine ⟨⟨vs, v, SqT.of h', e1⟩, fun x H' y => ?_⟩
  obtain ⟨y1, y2⟩ := y
  subst y1
  have e3 := y2 _ (SqT.of h')
  rw [e1] at e3
  cases e3
  exact ⟨Gr.refl T _, e2.le l⟩
theorem pi_cases {tg e : Expr} {I : RA} (h : ∀ ds, PI X tg e (iD X.K T fun ρ es => I ρ es ∧ es = ds)) : DI X T tg e I := ⟨fun pins s σ H R J q => by
  obtain ⟨ρ, ds, M, S, r, k⟩ := q
  exact (h ds).run pins s σ H R J ⟨ρ, ds, M, S, ⟨r, rfl⟩, k⟩⟩
theorem di_seq {tg e : Expr} {R : RE} (h : DE X T e R) : DI X T tg e (rSeq R) := ⟨fun pins s σ H R' J q => by
  obtain ⟨ρ, ds, M, S, ⟨d, r, e1⟩, k⟩ := q
  cases d with
  | list xs =>
    cases e1
    exact (pi_sized (wi' := iD X.K T fun ρ' ds' => R ρ' (.list ds')) (pi_list h) fun σ H R ⟨ρ, ds, M, S, r, k⟩ => tD1 S r fun v H1 g1 i1 => by
      cases i1 with
      | @lst a us _ h1 t1 => exact ⟨_, rfl, ⟨_, SqL.of (hid_some h1).2⟩, us.length, .inl ⟨a, us, (hid_some h1).2, rfl⟩, fun hl => k _ H1 g1 (by rw [← t1.length]; exact hl) (itl_is h1 t1)⟩).run pins s σ H R' J ⟨ρ, ds, M, S, r, k⟩
  | tuple xs =>
    cases e1
    exact (pi_sized (wi' := iD X.K T fun ρ' ds' => R ρ' (.tuple ds')) (pi_tup h) fun σ H R ⟨ρ, ds, M, S, r, k⟩ => tD1 S r fun v H1 g1 i1 => by
      cases i1 with
      | @tup a us _ h1 t1 => exact ⟨_, rfl, ⟨_, SqT.of (hid_some h1).2⟩, us.length, .inr (.inl ⟨a, us, (hid_some h1).2, rfl⟩), fun hl => k _ H1 g1 (by rw [← t1.length]; exact hl) (itt_is h1 t1)⟩).run pins s σ H R' J ⟨ρ, ds, M, S, r, k⟩
  | _ => cases e1⟩

/-! ### targets -/
inductive Bn where
  | nm (i : Nat)
  | tp (is : List Nat)
def Bn.slots : Bn → List Nat
  | .nm i => [i]
  | .tp is => is
def setAll : DEnv → List Nat → List PyData → DEnv
  | ρ, i :: is, d :: ds => setAll (ρ.set i (some d)) is ds
  | ρ, _, _ => ρ
def Bn.bind : Bn → PyData → DEnv → DEnv → Prop
  | .nm i, d, ρ, ρ' => ρ' = ρ.set i (some d)
  | .tp is, d, ρ, ρ' => ∃ ds, d = .tuple ds ∧ ds.length = is.length ∧ ρ' = setAll ρ is ds
def gNames : List Nat → TGs
  | [] => gNil
  | i :: is => gCons (gName i) (gNames is)
def gB (K : PySem.W.Frag) : Bn → TG
  | .nm i => gName i
  | .tp is => gTup K is.length (gNames is)
def DG (X : Cx) (tg : Expr) (b : Bn) : Prop := PG X tg (gB X.K b)
/-- only those slots have changed -/
def Only2 (is : List Nat) (σ σ' : L2.St) : Prop := ∀ j, j ∉ is → σ'[j]? = σ[j]?
theorem wipe_get (σ : L2.St) (j : Nat) : ∀ vs : List Nat, (wipe σ vs)[j]? = if j ∈ vs then (σ[j]?).map (fun _ => none) else σ[j]?
  | [] => by simp [wipe]
  | v :: vs => by
    have ih := wipe_get σ j vs
    show ((wipe σ vs).set v none)[j]? = _
    by_cases hv : v = j
    · subst hv
      rw [if_pos List.mem_cons_self]
      by_cases hl : v < σ.length
      · rw [List.getElem?_set_self (by rw [wipe_length]; exact hl), List.getElem?_eq_getElem hl]; rfl
      · rw [List.getElem?_eq_none (by rw [List.length_set, wipe_length]; omega), List.getElem?_eq_none (by omega)]; rfl
    · rw [List.getElem?_set_ne hv, ih]
      by_cases hm : j ∈ vs
      · rw [if_pos hm, if_pos (List.mem_cons_of_mem _ hm)]
      · rw [if_neg hm, if_neg (by simp only [List.mem_cons, not_or]; exact ⟨fun e => hv e.symm, hm⟩)]
theorem wipe_only {σ σ' : L2.St} {is vs : List Nat} (h : Only2 is σ σ') (hl : σ'.length = σ.length) (s : ∀ i ∈ is, i ∈ vs) : wipe σ' vs = wipe σ vs := by
  apply List.ext_getElem?
  intro j
  rw [wipe_get, wipe_get]
  by_cases hj : j ∈ vs
  · rw [if_pos hj, if_pos hj]
    by_cases hlt : j < σ.length
    · rw [List.getElem?_eq_getElem hlt, List.getElem?_eq_getElem (by rw [hl]; exact hlt)]; rfl
    · rw [List.getElem?_eq_none (by omega), List.getElem?_eq_none (by omega)]
  · rw [if_neg hj, if_neg hj]
    exact h j fun z => hj (s j z)
theorem gNames_run {K : PySem.W.Frag} {M : List Addr} {H : Hp} {Q : L2.St → Hp → Prop} : ∀ (is : List Nat) (vs : List V) (ds : List PyData) (σ : L2.St) (ρ : DEnv), Sat K T M H σ ρ → IsDs K (hid H M) vs ds → ds.length = is.length →
    (∀ σ', Sat K T M H σ' (setAll ρ is ds) → Only2 is σ σ' → σ'.length = σ.length → Q σ' H) → gNames is vs σ H Q
  | [], vs, ds, σ, ρ, S, t, hl, k => by
    have : ds = [] := List.eq_nil_of_length_eq_zero hl
    subst this
    cases t
    exact ⟨rfl, k σ S (fun _ _ => rfl) rfl⟩
  | i :: is, vs, ds, σ, ρ, S, t, hl, k => by
    cases t with
    | nil => cases hl
    | @cons v vs d ds h t =>
      refine ⟨v, vs, rfl, gNames_run is vs ds _ _ (S.set i h) t (Nat.succ.inj hl) fun σ' S' o l => k σ' S' (fun j hj => ?_) (l.trans (List.length_set ..))⟩
      simp only [List.mem_cons, not_or] at hj
      rw [o j hj.2, List.getElem?_set_ne (fun e => hj.1 e.symm)]
theorem gB_run {K : PySem.W.Frag} {M : List Addr} {H : Hp} {Q : L2.St → Hp → Prop} {b : Bn} {v : V} {d : PyData} {σ : L2.St} {ρ ρ' : DEnv} (S : Sat K T M H σ ρ) (i : IsD K (hid H M) v d) (hb : b.bind d ρ ρ')
    (k : ∀ σ', Sat K T M H σ' ρ' → Only2 b.slots σ σ' → σ'.length = σ.length → Q σ' H) : gB K b v σ H Q := by
  cases b with
  | nm j =>
    have e : ρ' = ρ.set j (some d) := hb
    subst e
    refine k _ (S.set j i) (fun l hl => ?_) (List.length_set ..)
    rw [List.getElem?_set_ne (fun e => hl (by rw [← e]; exact List.mem_singleton.mpr rfl))]
  | tp is =>
    obtain ⟨ds, e1, e2, e3⟩ := hb
    subst e1; subst e3
    cases i with
    | tup h t => exact ⟨_, _, rfl, SqT.of (hid_some h).2, by rw [t.length]; exact e2, gNames_run is _ ds σ ρ S t e2 k⟩

/-! ### tests of a clause -/
def DTs (X : Cx) (T : TabL) (ifs : List Expr) (B : RB) : Prop := PTs X ifs (tDT X.K T B)
def rYes : RB := fun _ c => c = true
theorem dts_nil : DTs X T [] rYes := ⟨fun pins s σ H Q I ⟨ρ, c, M, S, r, k⟩ => by
  have r' : c = true := r
  subst r'
  exact pts_nil.run pins s σ H Q I (k H (Gr.refl T H))⟩
theorem dts_one {c : Expr} {B : RB} (h : DT X T c B) : DTs X T [c] B := pts_one h

/-! ### list comprehensions -/
inductive LcRun (b : Bn) (C : RB) (R : RE) (ρ : DEnv) : List PyData → List PyData → Prop
  | nil : LcRun b C R ρ [] []
  | yes {d y : PyData} {ρ' : DEnv} {ds ys : List PyData} : b.bind d ρ ρ' → C ρ' true → R ρ' y → LcRun b C R ρ ds ys → LcRun b C R ρ (d :: ds) (y :: ys)
  | no {d : PyData} {ρ' : DEnv} {ds ys : List PyData} : b.bind d ρ ρ' → C ρ' false → LcRun b C R ρ ds ys → LcRun b C R ρ (d :: ds) ys
theorem LcRun.of {α : Type} {b : Bn} {C : RB} {R : RE} {ρ : DEnv} {e : α → PyData} {p : α → Bool} {g : α → PyData} : ∀ (xs : List α), (∀ x ∈ xs, ∃ ρ', b.bind (e x) ρ ρ' ∧ C ρ' (p x) ∧ (p x = true → R ρ' (g x))) → LcRun b C R ρ (xs.map e) ((xs.filter p).map g)
  | [], _ => .nil
  | x :: xs, h => by
    have ih := LcRun.of xs fun y hy => h y (List.mem_cons_of_mem _ hy)
    obtain ⟨ρ', h1, h2, h3⟩ := h x List.mem_cons_self
    cases q : p x with
    | true =>
      rw [List.filter_cons_of_pos q]
      exact .yes h1 (by rw [← q]; exact h2) (h3 q) ih
    | false =>
      rw [List.filter_cons_of_neg (by rw [q]; decide)]
      exact .no h1 (by rw [← q]; exact h2) ih
theorem LcRun.map {α : Type} {b : Bn} {R : RE} {ρ : DEnv} {e : α → PyData} {g : α → PyData} (xs : List α) (h : ∀ x ∈ xs, ∃ ρ', b.bind (e x) ρ ρ' ∧ R ρ' (g x)) : LcRun b rYes R ρ (xs.map e) (xs.map g) := by
  have := LcRun.of (b := b) (C := rYes) (R := R) (ρ := ρ) (e := e) (p := fun _ => true) (g := g) xs fun x hx => let ⟨ρ', h1, h2⟩ := h x hx; ⟨ρ', h1, rfl, fun _ => h2⟩
  rwa [List.filter_eq_self.mpr (fun _ _ => rfl)] at this
theorem LcRun.len {b : Bn} {C : RB} {R : RE} {ρ : DEnv} : ∀ {ds ys : List PyData}, LcRun b C R ρ ds ys → ys.length ≤ ds.length
  | _, _, .nil => Nat.le_refl _
  | _, _, .yes _ _ _ t => Nat.succ_le_succ t.len
  | _, _, .no _ _ t => Nat.le_succ_of_le t.len
/-- a new list, known to be new -/
def tDF (K : PySem.W.Frag) (T : TabL) (R : RA) : TE := fun σ H Q => ∃ ρ ds M, Sat K T M H σ ρ ∧ R ρ ds ∧ ∀ p H' vs, Gr T H H' → WF H p → H' p = some (.lst vs) → IsDs K (hid H' (p :: M)) vs ds → Q (.ref p) H'
def DF (X : Cx) (T : TabL) (e : Expr) (R : RA) : Prop := PE X e (tDF X.K T R)
def rLst' (R : RA) : RE := fun ρ d => ∃ ds, R ρ ds ∧ d = .list ds
theorem DF.de {e : Expr} {R : RA} (h : DF X T e R) : DE X T e (rLst' R) := pe_weak h fun σ H Q ⟨ρ, d, M, S, ⟨ds, r, e1⟩, k⟩ => by
  subst e1
  refine ⟨ρ, ds, M, S, r, fun p H' vs g hp hp' t => k _ H' g (.lst (hid_of (hp.msk S.msk) hp') (t.less fun a ha => List.mem_cons_of_mem _ ha))⟩
def rLc (own : List Nat) (I : RA) (b : Bn) (C : RB) (R : RE) : RA := fun ρ ys => ∃ ds, I ρ ds ∧ LcRun b C R (wipeD ρ own) ds ys
abbrev BlkAll (X : Cx) (scope : Scope) (P : Cx → Prop) : Prop := ∀ (s : Shared) (H : Hp) (C : Addr) (cl : List (Str × Addr)) (fp : List Addr), P (X.blk s H scope (compEnvC scope cl C X.env) fp)
theorem lc_run {K : PySem.W.Frag} {own : List Nat} {I C : _} {b : Bn} {R : RE} (hb : ∀ i ∈ b.slots, i ∈ own) {σ : L2.St} {H : Hp} {Q : VK} (q : tDF K T (rLc own I b C R) σ H Q) :
    tLc (iD K T I) (gB K b) (tDT K T C) (tD K T R) own σ H Q := by
  obtain ⟨ρ, ys, M, S, ⟨ds, hI, run⟩, k⟩ := q
  refine ⟨ρ, ds, M, S, hI, fun J H1 g1 hl its D hD => ?_⟩
  have S1 := S.gr g1
  have hDM : D ∉ M := S1.fresh hD
  refine ⟨fun i m H2 => m = ds.length - i ∧ i ≤ ds.length ∧ Gr T H1 H2 ∧ ∃ acc ys1 ys2, H2 D = some (.lst acc) ∧ IsDs K (hid H2 (D :: M)) acc ys1 ∧ ys = ys1 ++ ys2 ∧ LcRun b C R (wipeD ρ own) (ds.drop i) ys2 ∧ acc.length ≤ i,
    ⟨_, rfl, Nat.zero_le _, Gr.upd hD, [], [], ys, upd_same, .nil, rfl, run, Nat.le_refl _⟩, ?_⟩
  rintro i m H2 ⟨rfl, hi, g2, acc, ys1, ys2, hacc, tacc, ey, run2, hla⟩
  have mk2 : MOk (D :: M) H2 := fun a ha => by
    rcases List.mem_cons.mp ha with e | ha
    · rw [e]; exact ⟨_, hacc, nt_lst⟩
    · exact MOk.gr S1.msk g2 a ha
  have le2 : Le H1 M H2 (D :: M) := Le.new hD g2
  obtain ⟨it1, it2⟩ := its H2 (D :: M) mk2 le2
  by_cases hlt : i < ds.length
  · obtain ⟨go, yl⟩ := it1 i ds[i] (List.getElem?_eq_getElem hlt)
    refine .inr ⟨go, fun H' => ∃ acc' ys1' ys2', Gr T H1 H' ∧ H' D = some (.lst acc') ∧ IsDs K (hid H' (D :: M)) acc' ys1' ∧ ys = ys1' ++ ys2' ∧ LcRun b C R (wipeD ρ own) (ds.drop (i + 1)) ys2' ∧ acc'.length ≤ i + 1,
      fun H' ⟨acc', ys1', ys2', a1, a2, a3, a4, a5, a6⟩ => ⟨_, by omega, rfl, hlt, a1, acc', ys1', ys2', a2, a3, a4, a5, a6⟩, fun x H' y => ?_⟩
    obtain ⟨g3, ix⟩ := yl x H' y
    rw [List.drop_eq_getElem_cons hlt] at run2
    have S3 : Sat K T (D :: M) H' (wipe σ own) (wipeD ρ own) := ((S1.le (g2.2 S1.tabs) mk2 le2).wipe own).gr g3
    have hacc3 : H' D = some (.lst acc) := g3.1 _ _ hacc fun ps z => by cases z
    have tacc3 := tacc.gr g3
    have g13 := g2.trans g3
    have turn : ∀ {ρ' : DEnv} (c : Bool), b.bind ds[i] (wipeD ρ own) ρ' → C ρ' c →
        (c = true → ∃ y ys3, R ρ' y ∧ ys2 = y :: ys3 ∧ LcRun b C R (wipeD ρ own) (ds.drop (i + 1)) ys3) → (c = false → LcRun b C R (wipeD ρ own) (ds.drop (i + 1)) ys2) →
        gB K b x (wipe σ own) H' fun σ2 H4 => wipe σ2 own = wipe σ own ∧ tDT K T C σ2 H4 fun b' H5 => if b' = true then tD K T R σ2 H5 fun y H6 => ∃ acc, H6 D = some (.lst acc) ∧ acc.length < sizeLine ∧
          (fun H' => ∃ acc' ys1' ys2', Gr T H1 H' ∧ H' D = some (.lst acc') ∧ IsDs K (hid H' (D :: M)) acc' ys1' ∧ ys = ys1' ++ ys2' ∧ LcRun b C R (wipeD ρ own) (ds.drop (i + 1)) ys2' ∧ acc'.length ≤ i + 1) (upd H6 D (.lst (acc ++ [y])))
          else (fun H' => ∃ acc' ys1' ys2', Gr T H1 H' ∧ H' D = some (.lst acc') ∧ IsDs K (hid H' (D :: M)) acc' ys1' ∧ ys = ys1' ++ ys2' ∧ LcRun b C R (wipeD ρ own) (ds.drop (i + 1)) ys2' ∧ acc'.length ≤ i + 1) H5 := by
      intro ρ' c hbd hC hyes hno
      refine gB_run S3 ix hbd fun σ2 S4 o2 l2 => ⟨?_, ρ', c, D :: M, S4, hC, fun H5 g5 => ?_⟩
      · rw [wipe_only o2 l2 hb]
        apply List.ext_getElem?
        intro j
        rw [wipe_get, wipe_get]
        by_cases hj : j ∈ own
        · rw [if_pos hj, if_pos hj]
          cases σ[j]? <;> rfl
        · rw [if_neg hj, if_neg hj]
      · have hacc5 : H5 D = some (.lst acc) := g5.1 _ _ hacc3 fun ps z => by cases z
        have tacc5 := tacc3.gr g5
        cases c with
        | false =>
          show (if false = true then _ else _)
          rw [if_neg (by decide)]
          exact ⟨acc, ys1, ys2, g13.trans g5, hacc5, tacc5, ey, hno rfl, by omega⟩
        | true =>
          show (if true = true then _ else _)
          rw [if_pos rfl]
          obtain ⟨yd, ys3, hR, e3, run3⟩ := hyes rfl
          refine ⟨ρ', yd, D :: M, S4.gr g5, hR, fun v H6 g6 iv => ?_⟩
          have hacc6 : H6 D = some (.lst acc) := g6.1 _ _ hacc5 fun ps z => by cases z
          refine ⟨acc, hacc6, by omega, acc ++ [v], ys1 ++ [yd], ys3, ?_, upd_same, ?_, ?_, run3, ?_⟩
          · have g16 := (g13.trans g5).trans g6
            refine ⟨fun a o h n => ?_, fun t => tabs_lst hacc6 (g16.2 t)⟩
            rw [upd_ne (ne_of_none h hD)]
            exact g16.1 a o h n
          · rw [hid_upd List.mem_cons_self]
            exact (tacc5.gr g6).snoc iv
          · rw [ey, e3, List.append_assoc]; rfl
          · rw [List.length_append]; show acc.length + 1 ≤ i + 1; omega
    cases run2 with
    | yes h1 h2 h3 h4 => exact turn true h1 h2 (fun _ => ⟨_, _, h3, rfl, h4⟩) (fun z => by cases z)
    | no h1 h2 h4 => exact turn false h1 h2 (fun z => by cases z) (fun _ => h4)
  · have e : i = ds.length := by omega
    subst e
    rw [List.drop_length] at run2
    cases run2
    rw [List.append_nil] at ey
    subst ey
    exact .inl ⟨it2, k D H2 acc (g1.trans g2) (WF.of g1 hD) hacc tacc⟩
end
end Vk

/-! ## VkStm -/
set_option Elab.async false
set_option linter.all false
set_option maxRecDepth 100000
set_option maxHeartbeats 1000000
/-! Statements over data; lists that a body owns and changes. -/
namespace Vk
open PySem PySem.Spec PyProof.Rows L2 LamX StX

/-- what a slot holds: data, or a list that this body changes -/
inductive Cell where
  | d (x : PyData)
  | o (xs : List PyData)
abbrev Ev : Type := List (Option Cell)
def mk1 : Option Cell → Option PyData
  | some (.d x) => some x
  | _ => none
def op1 : Option Cell → Option PyData
  | some (.d x) => some x
  | some (.o xs) => some (.list xs)
  | none => none
def fz1 : Option Cell → Option Cell
  | some (.o xs) => some (.d (.list xs))
  | c => c
/-- own lists not seen -/
def mk (ε : Ev) : DEnv := ε.map mk1
/-- own lists seen as lists -/
def opn (ε : Ev) : DEnv := ε.map op1
/-- own lists are no longer changed -/
def frz (ε : Ev) : Ev := ε.map fz1
theorem mk_get {ε : Ev} {i : Nat} {x : PyData} (h : (mk ε)[i]? = some (some x)) : ε[i]? = some (some (.d x)) := by
  unfold mk at h
  rw [List.getElem?_map] at h
  cases q : ε[i]? with
  | none => rw [q] at h; cases h
  | some c =>
    rw [q] at h
    cases c with
    | none => cases h
    | some c => cases c with
      | d y => cases h; rfl
      | o y => cases h
theorem opn_get {ε : Ev} {i : Nat} {x : PyData} (h : (opn ε)[i]? = some (some x)) : ε[i]? = some (some (.d x)) ∨ ∃ xs, x = .list xs ∧ ε[i]? = some (some (.o xs)) := by
  unfold opn at h
  rw [List.getElem?_map] at h
  cases q : ε[i]? with
  | none => rw [q] at h; cases h
  | some c =>
    rw [q] at h
    cases c with
    | none => cases h
    | some c => cases c with
      | d y => cases h; exact .inl rfl
      | o y => cases h; exact .inr ⟨y, rfl, rfl⟩

structure St2 (K : PySem.W.Frag) (T : TabL) (M0 M : List Addr) (H : Hp) (σ : L2.St) (ε : Ev) : Prop where
  tabs : Tabs T H
  msk : MOk M H
  sub : ∀ a ∈ M0, a ∈ M
  len : σ.length = ε.length
  dat : ∀ (i : Nat) x, ε[i]? = some (some (.d x)) → ∃ v, σ[i]? = some (some v) ∧ IsD K (hid H M) v x
  own : ∀ (i : Nat) xs, ε[i]? = some (some (.o xs)) → ∃ a vs, σ[i]? = some (some (.ref a)) ∧ a ∈ M ∧ a ∉ M0 ∧ H a = some (.lst vs) ∧ IsDs K (hid H M) vs xs
  dis : ∀ (i j : Nat) xs ys, i ≠ j → ε[i]? = some (some (.o xs)) → ε[j]? = some (some (.o ys)) → σ[i]? ≠ σ[j]?
/-- what was there stays, but for own lists -/
def Fr (T : TabL) (M0 : List Addr) (H : Hp) (M : List Addr) (H' : Hp) (M' : List Addr) : Prop :=
  (∀ b o, H b = some o → (∀ ps, o ≠ HO.tbl ps) → (b ∉ M ∨ b ∈ M0) → H' b = some o ∧ (b ∉ M' ∨ b ∈ M0)) ∧ (Tabs T H → Tabs T H')
section
variable {K : PySem.W.Frag} {T : TabL} {H H' H1 H2 : Hp} {M0 M M' M1 M2 : List Addr} {σ : L2.St} {ε : Ev}
theorem Fr.refl : Fr T M0 H M H M := ⟨fun b o h n z => ⟨h, z⟩, id⟩
theorem Fr.trans (a : Fr T M0 H M H1 M1) (b : Fr T M0 H1 M1 H2 M2) : Fr T M0 H M H2 M2 := ⟨fun c o h n z => let ⟨h1, z1⟩ := a.1 c o h n z; b.1 c o h1 n z1, fun t => b.2 (a.2 t)⟩
theorem Fr.gr (g : Gr T H H') : Fr T M0 H M H' M := ⟨fun b o h n z => ⟨g.1 b o h n, z⟩, g.2⟩
theorem Fr.le (f : Fr T M0 H M H' M') (s : ∀ a ∈ M0, a ∈ M) : Le H M H' M' := fun b o h n => by
  obtain ⟨h1, h2⟩ := hid_some h
  obtain ⟨h3, h4⟩ := f.1 b o h2 n (.inl h1)
  exact hid_of (h4.resolve_right fun z => h1 (s _ z)) h3
theorem Fr.out (f : Fr T M0 H M0 H' M') : Gr T H H' := ⟨fun b o h n => (f.1 b o h n (Classical.em _).symm).1, f.2⟩
theorem St2.sat (S : St2 K T M0 M H σ ε) : Sat K T M H σ (Vk.mk ε) := ⟨S.tabs, S.msk, by rw [S.len]; exact (List.length_map ..).symm, fun i d e => S.dat i d (mk_get e)⟩
theorem St2.msk0 (S : St2 K T M0 M H σ ε) : MOk M0 H := fun a ha => S.msk a (S.sub a ha)
theorem St2.open (S : St2 K T M0 M H σ ε) : Sat K T M0 H σ (opn ε) := ⟨S.tabs, S.msk0, by rw [S.len]; exact (List.length_map ..).symm, fun i d e => by
  rcases opn_get e with e1 | ⟨xs, e2, e1⟩
  · obtain ⟨v, h1, h2⟩ := S.dat i d e1
    exact ⟨v, h1, h2.less S.sub⟩
  · subst e2
    obtain ⟨a, vs, h1, h2, h3, h4, h5⟩ := S.own i xs e1
    exact ⟨_, h1, .lst (hid_of h3 h4) (h5.less S.sub)⟩⟩
theorem St2.gr (S : St2 K T M0 M H σ ε) (g : Gr T H H') : St2 K T M0 M H' σ ε where
  tabs := g.2 S.tabs
  msk := MOk.gr S.msk g
  sub := S.sub
  len := S.len
  dat := fun i d e => let ⟨v, h1, h2⟩ := S.dat i d e; ⟨v, h1, h2.gr g⟩
  own := fun i d e => let ⟨a, vs, h1, h2, h3, h4, h5⟩ := S.own i d e; ⟨a, vs, h1, h2, h3, g.1 _ _ h4 (fun ps z => by cases z), h5.gr g⟩
  dis := S.dis
theorem set_some {α : Type} {l : List (Option α)} {i j : Nat} {x : Option α} {y : α} (h : (l.set i x)[j]? = some (some y)) : (i = j ∧ i < l.length ∧ x = some y) ∨ (i ≠ j ∧ l[j]? = some (some y)) := by
  by_cases e : i = j
  · subst e
    have hl : i < (l.set i x).length := (List.getElem?_eq_some_iff.mp h).1
    rw [List.length_set] at hl
    rw [List.getElem?_set_self hl] at h
    exact .inl ⟨rfl, hl, Option.some.inj h⟩
  · rw [List.getElem?_set_ne e] at h
    exact .inr ⟨e, h⟩
theorem St2.set (S : St2 K T M0 M H σ ε) (i : Nat) {v : V} {x : PyData} (h : IsD K (hid H M) v x) : St2 K T M0 M H (σ.set i (some v)) (ε.set i (some (.d x))) where
  tabs := S.tabs
  msk := S.msk
  sub := S.sub
  len := by rw [List.length_set, List.length_set, S.len]
  dat := fun j e q => by
    rcases set_some q with ⟨rfl, hl, q⟩ | ⟨hj, q⟩
    · cases q; exact ⟨v, by rw [List.getElem?_set_self (by rw [S.len]; exact hl)], h⟩
    · rw [List.getElem?_set_ne hj]; exact S.dat j e q
  own := fun j e q => by
    rcases set_some q with ⟨rfl, hl, q⟩ | ⟨hj, q⟩
    · cases q
    · rw [List.getElem?_set_ne hj]; exact S.own j e q
  dis := fun j l xs ys n q1 q2 => by
    rcases set_some q1 with ⟨rfl, hl, q1⟩ | ⟨hj, q1⟩
    · cases q1
    · rcases set_some q2 with ⟨rfl, hl, q2⟩ | ⟨hj2, q2⟩
      · cases q2
      · rw [List.getElem?_set_ne hj, List.getElem?_set_ne hj2]; exact S.dis j l xs ys n q1 q2
/-- a slot gets a new own list -/
theorem St2.setO (S : St2 K T M0 M H σ ε) (i : Nat) {p : Addr} {vs : List V} {xs : List PyData} (g : Gr T H H') (w : WF H p) (hp : H' p = some (.lst vs)) (h : IsDs K (hid H' (p :: M)) vs xs) :
    St2 K T M0 (p :: M) H' (σ.set i (some (.ref p))) (ε.set i (some (.o xs))) ∧ Fr T M0 H M H' (p :: M) := by
  have hpM : p ∉ M := w.msk S.msk
  have hle : Le H M H' (p :: M) := fun b o q n => by
    obtain ⟨q1, q2⟩ := hid_some q
    refine hid_of ?_ (g.1 _ _ q2 n)
    simp only [List.mem_cons, not_or]
    exact ⟨fun e => by subst e; obtain ⟨ps, z⟩ := w _ q2; exact n ps z, q1⟩
  refine ⟨⟨g.2 S.tabs, fun a ha => ?_, fun a ha => List.mem_cons_of_mem _ (S.sub a ha), by rw [List.length_set, List.length_set, S.len], fun j e q => ?_, fun j e q => ?_, fun j l xs' ys n q1 q2 => ?_⟩, fun b o q n z => ⟨g.1 _ _ q n, ?_⟩, g.2⟩
  · rcases List.mem_cons.mp ha with e | ha
    · rw [e]; exact ⟨_, hp, nt_lst⟩
    · exact MOk.gr S.msk g a ha
  · rcases set_some q with ⟨rfl, hl, q⟩ | ⟨hj, q⟩
    · cases q
    · rw [List.getElem?_set_ne hj]
      obtain ⟨v, h1, h2⟩ := S.dat j e q
      exact ⟨v, h1, h2.le hle⟩
  · rcases set_some q with ⟨rfl, hl, q⟩ | ⟨hj, q⟩
    · cases q
      exact ⟨p, vs, by rw [List.getElem?_set_self (by rw [S.len]; exact hl)], List.mem_cons_self, fun z => hpM (S.sub _ z), hp, h⟩
    · rw [List.getElem?_set_ne hj]
      obtain ⟨a, us, h1, h2, h3, h4, h5⟩ := S.own j e q
      exact ⟨a, us, h1, List.mem_cons_of_mem _ h2, h3, g.1 _ _ h4 (fun ps z => by cases z), h5.le hle⟩
  · rcases set_some q1 with ⟨rfl, hl, q1⟩ | ⟨hj, q1⟩
    · rcases set_some q2 with ⟨rfl, hl2, q2⟩ | ⟨hj2, q2⟩
      · exact absurd rfl n
      · rw [List.getElem?_set_self (by rw [S.len]; exact hl), List.getElem?_set_ne hj2]
        obtain ⟨a, us, h1, h2, _⟩ := S.own l _ q2
        rw [h1]
        intro z
        cases z
        exact hpM h2
    · rcases set_some q2 with ⟨rfl, hl2, q2⟩ | ⟨hj2, q2⟩
      · rw [List.getElem?_set_self (by rw [S.len]; exact hl2), List.getElem?_set_ne hj]
        obtain ⟨a, us, h1, h2, _⟩ := S.own j _ q1
        rw [h1]
        intro z
        cases z
        exact hpM h2
      · rw [List.getElem?_set_ne hj, List.getElem?_set_ne hj2]; exact S.dis j l xs' ys n q1 q2
  · rcases z with z | z
    · left
      simp only [List.mem_cons, not_or]
      exact ⟨fun e => by subst e; obtain ⟨ps, z⟩ := w _ q; exact n ps z, z⟩
    · exact .inr z
/-- an own list is changed -/
theorem St2.chg (S : St2 K T M0 M H σ ε) {i : Nat} {xs ys : List PyData} {a : Addr} {vs ws : List V} (e : ε[i]? = some (some (.o xs))) (hs : σ[i]? = some (some (.ref a))) (hv : H a = some (.lst vs)) (hw : IsDs K (hid H M) ws ys) :
    St2 K T M0 M (upd H a (.lst ws)) σ (ε.set i (some (.o ys))) ∧ Fr T M0 H M (upd H a (.lst ws)) M := by
  obtain ⟨a', vs', h1, h2, h3, h4, h5⟩ := S.own i xs e
  rw [hs] at h1
  cases h1
  have hh : hid (upd H a (.lst ws)) M = hid H M := hid_upd h2
  refine ⟨⟨tabs_lst hv S.tabs, fun b hb => ?_, S.sub, by rw [List.length_set, S.len], fun j d q => ?_, fun j d q => ?_, fun j l xs' ys' n q1 q2 => ?_⟩, fun b o q n z => ⟨?_, z⟩, tabs_lst hv⟩
  · by_cases eb : b = a
    · subst eb; exact ⟨_, upd_same, nt_lst⟩
    · rw [upd_ne eb]; exact S.msk b hb
  · rw [hh]
    rcases set_some q with ⟨rfl, hl, q⟩ | ⟨hj, q⟩
    · cases q
    · exact S.dat j d q
  · rw [hh]
    rcases set_some q with ⟨rfl, hl, q⟩ | ⟨hj, q⟩
    · cases q
      exact ⟨a, ws, hs, h2, h3, upd_same, hw⟩
    · obtain ⟨b, us, k1, k2, k3, k4, k5⟩ := S.own j d q
      refine ⟨b, us, k1, k2, k3, ?_, k5⟩
      rw [upd_ne]
      · exact k4
      · intro eb
        subst eb
        exact S.dis i j xs d hj e q (by rw [hs, k1])
  · have q1' : ∃ z, ε[j]? = some (some (.o z)) := by
      rcases set_some q1 with ⟨rfl, hl, q1⟩ | ⟨hj, q1⟩
      · exact ⟨_, e⟩
      · exact ⟨_, q1⟩
    have q2' : ∃ z, ε[l]? = some (some (.o z)) := by
      rcases set_some q2 with ⟨rfl, hl, q2⟩ | ⟨hj, q2⟩
      · exact ⟨_, e⟩
      · exact ⟨_, q2⟩
    obtain ⟨z1, q1'⟩ := q1'
    obtain ⟨z2, q2'⟩ := q2'
    exact S.dis j l _ _ n q1' q2'
  · rw [upd_ne]
    · exact q
    · intro eb
      subst eb
      rcases z with z | z
      · exact z h2
      · exact h3 z
theorem frz_get {i : Nat} {c : Cell} (h : (frz ε)[i]? = some (some c)) : ∃ x, c = .d x ∧ (opn ε)[i]? = some (some x) := by
  unfold frz at h
  unfold opn
  rw [List.getElem?_map] at h ⊢
  cases q : ε[i]? with
  | none => rw [q] at h; cases h
  | some e =>
    rw [q] at h
    cases e with
    | none => cases h
    | some e => cases e with
      | d y => cases h; exact ⟨_, rfl, rfl⟩
      | o y => cases h; exact ⟨_, rfl, rfl⟩
theorem St2.frz (S : St2 K T M0 M H σ ε) : St2 K T M0 M0 H σ (frz ε) ∧ Fr T M0 H M H M0 := by
  refine ⟨⟨S.tabs, S.msk0, fun _ h => h, by rw [S.len]; exact (List.length_map ..).symm, fun i d q => ?_, fun i d q => ?_, fun i j xs ys n q1 q2 => ?_⟩, fun b o q n z => ⟨q, (Classical.em _).symm⟩, id⟩
  · obtain ⟨x, e, h⟩ := frz_get q
    cases e
    exact S.open.slot i d h
  · obtain ⟨x, e, h⟩ := frz_get q
    cases e
  · obtain ⟨x, e, h⟩ := frz_get q1
    cases e
end

/-! ### statements -/
abbrev W2 : Type := (Ev → Prop) → (PyData → Prop) → Ev → Prop
def tS (K : PySem.W.Frag) (T : TabL) (w : W2) : TS := fun D σ H => ∃ M0 M ε Nx Rt, St2 K T M0 M H σ ε ∧ w Nx Rt ε ∧ (∀ σ' H' M' ε', Fr T M0 H M H' M' → St2 K T M0 M' H' σ' ε' → Nx ε' → D.nx σ' H') ∧
  (∀ v H' M' d, Fr T M0 H M H' M' → IsD K (hid H' M0) v d → Rt d → D.rt v H')
def DS (X : Cx) (T : TabL) (st : Stmt) (w : W2) : Prop := PS X st (tS X.K T w)
def DSs (X : Cx) (T : TabL) (st : List Stmt) (w : W2) : Prop := PSs X st (tS X.K T w)
section
variable {X : Cx} {T : TabL}
theorem ps_weak {e : Stmt} {t t' : TS} (h : PS X e t) (k : ∀ D σ H, t' D σ H → t D σ H) : PS X e t' := ⟨fun pins s σ H D I q => h.run pins s σ H D I (k D σ H q)⟩
theorem pss_weak {e : List Stmt} {t t' : TS} (h : PSs X e t) (k : ∀ D σ H, t' D σ H → t D σ H) : PSs X e t' := ⟨fun pins s σ H D I q => h.run pins s σ H D I (k D σ H q)⟩
def wNext : W2 := fun Nx _ ε => Nx ε
def wSeq (w u : W2) : W2 := fun Nx Rt ε => w (fun ε' => u Nx Rt ε') Rt ε
theorem dss_nil : DSs X T [] wNext := pss_weak pss_nil fun D σ H ⟨M0, M, ε, Nx, Rt, S, q, k1, k2⟩ => k1 σ H M ε Fr.refl S q
theorem dss_one {st : Stmt} {w : W2} (h : DS X T st w) : DSs X T [st] w := pss_one h
theorem dss_cons {st : Stmt} {rest : List Stmt} {w u : W2} (h : DS X T st w) (h' : DSs X T rest u) : DSs X T (st :: rest) (wSeq w u) :=
  pss_weak (pss_cons h h') fun D σ H ⟨M0, M, ε, Nx, Rt, S, q, k1, k2⟩ =>
    ⟨M0, M, ε, _, Rt, S, q, fun σ1 H1 M1 ε1 f1 S1 q1 => ⟨M0, M1, ε1, Nx, Rt, S1, q1, fun σ2 H2 M2 ε2 f2 => k1 σ2 H2 M2 ε2 (f1.trans f2), fun v H2 M2 d f2 => k2 v H2 M2 d (f1.trans f2)⟩, k2⟩
def wFrz (w : W2) : W2 := fun Nx Rt ε => w Nx Rt (frz ε)
theorem dss_frz {st : List Stmt} {w : W2} (h : DSs X T st w) : DSs X T st (wFrz w) := pss_weak h fun D σ H ⟨M0, M, ε, Nx, Rt, S, q, k1, k2⟩ =>
  ⟨M0, M0, _, Nx, Rt, S.frz.1, q, fun σ2 H2 M2 ε2 f2 => k1 σ2 H2 M2 ε2 (S.frz.2.trans f2), fun v H2 M2 d f2 => k2 v H2 M2 d (S.frz.2.trans f2)⟩
def wNo : W2 := fun _ _ _ => False
theorem ds_never {st : Stmt} : DS X T st wNo := ps_weak (t := tNever) ps_never fun D σ H ⟨_, _, _, _, _, _, q, _⟩ => q
theorem dss_never {st : List Stmt} : DSs X T st wNo := pss_weak (t := tNever) pss_never fun D σ H ⟨_, _, _, _, _, _, q, _⟩ => q
def wRet (R : RE) : W2 := fun _ Rt ε => ∃ d, R (opn ε) d ∧ Rt d
theorem ds_ret {e : Expr} {R : RE} {pos : Pos} (h : DE X T e R) : DS X T (.Return (some e) pos) (wRet R) := ps_weak (ps_ret h) fun D σ H ⟨M0, M, ε, Nx, Rt, S, ⟨d, r, q⟩, k1, k2⟩ =>
  tD1 S.open r fun v H1 g i => k2 v H1 M d (Fr.gr g) i q
def wIf (B : RB) (w u : W2) : W2 := fun Nx Rt ε => ∃ b, B (opn ε) b ∧ ((b = true ∧ w Nx Rt ε) ∨ (b = false ∧ u Nx Rt ε))
theorem ds_if {c : Expr} {a b : List Stmt} {B : RB} {w u : W2} {pos : Pos} (hc : DT X T c B) (ha : DSs X T a w) (hb : DSs X T b u) : DS X T (.If c a b pos) (wIf B w u) := ps_weak (ps_if hc ha hb) fun D σ H ⟨M0, M, ε, Nx, Rt, S, ⟨b, r, q⟩, k1, k2⟩ =>
  ⟨opn ε, b, M0, S.open, r, fun H1 g => by
    rcases q with ⟨e, q⟩ | ⟨e, q⟩
    · rw [if_pos e]
      exact ⟨M0, M, ε, Nx, Rt, S.gr g, q, fun σ2 H2 M2 ε2 f2 => k1 σ2 H2 M2 ε2 ((Fr.gr g).trans f2), fun v H2 M2 d f2 => k2 v H2 M2 d ((Fr.gr g).trans f2)⟩
    · subst e; rw [if_neg (by decide)]
      exact ⟨M0, M, ε, Nx, Rt, S.gr g, q, fun σ2 H2 M2 ε2 f2 => k1 σ2 H2 M2 ε2 ((Fr.gr g).trans f2), fun v H2 M2 d f2 => k2 v H2 M2 d ((Fr.gr g).trans f2)⟩⟩
/-- name = data -/
def wSet (i : Nat) (R : RE) : W2 := fun Nx _ ε => ∃ d, R (mk ε) d ∧ Nx (ε.set i (some (.d d)))
theorem ds_setG {st : Stmt} {i : Nat} {R : RE} (h : PS X st (tAsg (tD X.K T R) (gName i))) : DS X T st (wSet i R) := ps_weak h fun D σ H ⟨M0, M, ε, Nx, Rt, S, ⟨d, r, q⟩, k1, k2⟩ =>
  tD1 S.sat r fun v H1 g j => k1 _ H1 M _ (Fr.gr g) ((S.gr g).set i j) q
/-- name = a new own list -/
def wOwn (i : Nat) (R : RA) : W2 := fun Nx _ ε => ∃ ds, R (mk ε) ds ∧ Nx (ε.set i (some (.o ds)))
theorem ds_ownG {st : Stmt} {i : Nat} {R : RA} (h : PS X st (tAsg (tDF X.K T R) (gName i))) : DS X T st (wOwn i R) := ps_weak h fun D σ H ⟨M0, M, ε, Nx, Rt, S, ⟨d, r, q⟩, k1, k2⟩ =>
  ⟨mk ε, d, M, S.sat, r, fun p H' vs g w hp t => k1 _ H' (p :: M) _ (S.setO i g w hp t).2 (S.setO i g w hp t).1 q⟩
theorem df_lst {es : List Expr} {A : RA} {pos} (h : DA X T es A) : DF X T (.List es pos) (fun ρ ds => A ρ ds ∧ ds.length ≤ 1000000) := pe_weak (pe_lst h) fun σ H Q ⟨ρ, ds, M, S, ⟨r, l⟩, k⟩ =>
  ⟨ρ, ds, M, S, r, fun vs H1 g1 i1 => ⟨by rw [i1.length]; exact line_of l, fun p hp => k p _ vs (g1.trans (Gr.upd hp)) (WF.of g1 hp) upd_same (i1.le (Le.new hp (Gr.upd (T := T) hp)))⟩⟩

/-! ### for -/
def setC : Ev → List Nat → List PyData → Ev
  | ε, i :: is, d :: ds => setC (ε.set i (some (.d d))) is ds
  | ε, _, _ => ε
def bindE : Bn → PyData → Ev → Ev → Prop
  | .nm i, d, ε, ε' => ε' = ε.set i (some (.d d))
  | .tp is, d, ε, ε' => ∃ ds, d = .tuple ds ∧ ds.length = is.length ∧ ε' = setC ε is ds
def wFor (b : Bn) (I : RA) (w : W2) : W2 := fun Nx Rt ε => ∃ ds, I (mk ε) ds ∧ ∃ J : Nat → Ev → Prop, J 0 ε ∧ (∀ i (h : i < ds.length) ε1, J i ε1 → ∃ ε2, bindE b ds[i] ε1 ε2 ∧ w (J (i + 1)) Rt ε2) ∧ ∀ ε1, J ds.length ε1 → Nx ε1
theorem gNames2 {K : PySem.W.Frag} {M0 M : List Addr} {H : Hp} {Q : L2.St → Hp → Prop} : ∀ (is : List Nat) (vs : List V) (ds : List PyData) (σ : L2.St) (ε : Ev), St2 K T M0 M H σ ε → IsDs K (hid H M) vs ds → ds.length = is.length →
    (∀ σ', St2 K T M0 M H σ' (setC ε is ds) → Q σ' H) → gNames is vs σ H Q
  | [], vs, ds, σ, ε, S, t, hl, k => by
    have : ds = [] := List.eq_nil_of_length_eq_zero hl
    subst this
    cases t
    exact ⟨rfl, k σ S⟩
  | i :: is, vs, ds, σ, ε, S, t, hl, k => by
    cases t with
    | nil => cases hl
    | @cons v vs d ds h t => exact ⟨v, vs, rfl, gNames2 is vs ds _ _ (S.set i h) t (Nat.succ.inj hl) k⟩
theorem gB2 {K : PySem.W.Frag} {M0 M : List Addr} {H : Hp} {Q : L2.St → Hp → Prop} {b : Bn} {v : V} {d : PyData} {σ : L2.St} {ε ε' : Ev} (S : St2 K T M0 M H σ ε) (i : IsD K (hid H M) v d) (hb : bindE b d ε ε')
    (k : ∀ σ', St2 K T M0 M H σ' ε' → Q σ' H) : gB K b v σ H Q := by
  cases b with
  | nm j =>
    have e : ε' = ε.set j (some (.d d)) := hb
    subst e
    exact k _ (S.set j i)
  | tp is =>
    obtain ⟨ds, e1, e2, e3⟩ := hb
    subst e1; subst e3
    cases i with
    | tup h t => exact ⟨_, _, rfl, SqT.of (hid_some h).2, by rw [t.length]; exact e2, gNames2 is _ ds σ ε S t e2 k⟩
theorem ds_for {tg iter : Expr} {body : List Stmt} {I : RA} {b : Bn} {w : W2} {pos : Pos} (hp : PassesOwn (model X.prog X.w) X.A X.env X.xe) (hc : X.calm = true) (hi : DI X T tg iter I) (hg : DG X tg b) (hb : DSs X T body w)
    (hs : ∀ x, foldedSetIterable iter X.env x = pure x := by intro _; rfl) : DS X T (.For tg iter body [] pos) (wFor b I w) := ps_weak (ps_for hp hc hi hg hb hs) fun D σ H ⟨M0, M, ε, Nx, Rt, S, ⟨ds, r, J, j0, turn, fin⟩, k1, k2⟩ => by
  refine ⟨mk ε, ds, M, S.sat, r, fun It H1 g1 hl its => ?_⟩
  have S1 := S.gr g1
  refine ⟨fun i m σ2 H2 => m = ds.length - i ∧ i ≤ ds.length ∧ ∃ M2 ε2, Fr T M0 H1 M H2 M2 ∧ St2 X.K T M0 M2 H2 σ2 ε2 ∧ J i ε2, ⟨_, rfl, Nat.zero_le _, M, ε, Fr.refl, S1, j0⟩, ?_⟩
  rintro i m σ2 H2 ⟨rfl, hi, M2, ε2, f2, S2, j2⟩
  obtain ⟨it1, it2⟩ := its H2 M2 S2.msk (f2.le S.sub)
  by_cases hlt : i < ds.length
  · obtain ⟨go, yl⟩ := it1 i ds[i] (List.getElem?_eq_getElem hlt)
    refine .inr ⟨go, fun σ' H' => ∃ M' ε', Fr T M0 H1 M H' M' ∧ St2 X.K T M0 M' H' σ' ε' ∧ J (i + 1) ε', fun σ' H' ⟨M', ε', a1, a2, a3⟩ => ⟨_, by omega, rfl, hlt, M', ε', a1, a2, a3⟩, fun x H' y => ?_⟩
    obtain ⟨g3, ix⟩ := yl x H' y
    obtain ⟨ε3, b3, w3⟩ := turn i hlt ε2 j2
    refine gB2 (S2.gr g3) ix b3 fun σ' S4 => ⟨M0, M2, ε3, J (i + 1), Rt, S4, w3, fun σ5 H5 M5 ε5 f5 S5 j5 => ⟨M5, ε5, (f2.trans (Fr.gr g3)).trans f5, S5, j5⟩, fun v H5 M5 d f5 => k2 v H5 M5 d ((Fr.gr g1).trans ((f2.trans (Fr.gr g3)).trans f5))⟩
  · have e : i = ds.length := by omega
    subst e
    exact .inl ⟨it2, k1 σ2 H2 M2 ε2 ((Fr.gr g1).trans f2) S2 (fin ε2 j2)⟩
/-! ### a tuple unpacked -/
def wUnp (is : List Nat) (R : RE) : W2 := fun Nx _ ε => ∃ d ε', R (mk ε) d ∧ bindE (.tp is) d ε ε' ∧ Nx ε'
theorem ds_unp {tg e : Expr} {is : List Nat} {R : RE} {pos : Pos} (he : DE X T e R) (hg : DG X tg (.tp is)) (hs : swapsWithSole [tg] e pos.line X.env = pure false := by rfl) (hw : swappedStores [tg] e X.env = pure none := by rfl)
    (h1 : (assignEach [tg] X.env).map (·.2) = [assign tg X.env] := by rfl) : DS X T (.Assign [tg] e pos) (wUnp is R) := ps_weak (ps_asg he hg hs hw h1) fun D σ H ⟨M0, M, ε, Nx, Rt, S, ⟨d, ε', r, b, q⟩, k1, k2⟩ =>
  tD1 S.sat r fun v H1 g j => gB2 (S.gr g) j b fun σ' S' => k1 σ' H1 M ε' (Fr.gr g) S' q
end
end Vk

/-! ## VkMore -/
set_option Elab.async false
set_option linter.all false
set_option maxRecDepth 100000
set_option maxHeartbeats 1000000
/-! More rules over data: comprehensions as expressions, two-for comprehensions, methods of lists, several names at once. -/
namespace Vk
open PySem PySem.Spec PyProof.Rows L2 LamX StX
section
variable {X : Cx} {T : TabL}
/-! ### a loop by what is walked -/
def LoopF (J : It) (body : V → Hp → (Hp → Prop) → Prop) (End : Hp → Prop) (H0 : Hp) : Prop := ∃ W : Nat → Nat → Hp → Prop, (∃ m, W 0 m H0) ∧ ∀ i m H, W i m H →
  (J.stop i H ∧ End H) ∨ (J.go i H ∧ ∃ Nx : Hp → Prop, (∀ H', Nx H' → ∃ m', m' < m ∧ W (i + 1) m' H') ∧ ∀ x H', J.yld i H x H' → body x H' Nx)
theorem loopF {K : PySem.W.Frag} {J : It} {ds : List PyData} {Hs H0 : Hp} {Ms : List Addr} {body : V → Hp → (Hp → Prop) → Prop} {End : Hp → Prop} (its : ItIs K T Ms J ds Hs) (Mv : List Addr) (Iv : Nat → Hp → Prop) (h0 : Iv 0 H0)
    (hI : ∀ i H, Iv i H → MOk Mv H ∧ Le Hs Ms H Mv) (hend : ∀ H, Iv ds.length H → End H) (hs : ∀ i (h : i < ds.length) H x H', Iv i H → Gr T H H' → IsD K (hid H' Mv) x ds[i] → body x H' (Iv (i + 1))) : LoopF J body End H0 := by
  refine ⟨fun i m H => m = ds.length - i ∧ i ≤ ds.length ∧ Iv i H, ⟨_, rfl, Nat.zero_le _, h0⟩, ?_⟩
  rintro i m H ⟨rfl, hi, p⟩
  obtain ⟨mk, le⟩ := hI i H p
  obtain ⟨it1, it2⟩ := its H Mv mk le
  by_cases hlt : i < ds.length
  · obtain ⟨go, yl⟩ := it1 i ds[i] (List.getElem?_eq_getElem hlt)
    refine .inr ⟨go, Iv (i + 1), fun H' p' => ⟨_, by omega, rfl, hlt, p'⟩, fun x H' y => ?_⟩
    obtain ⟨g, ix⟩ := yl x H' y
    exact hs i hlt H x H' p g ix
  · have e : i = ds.length := by omega
    subst e
    exact .inl ⟨it2, hend H p⟩
/-! ### list comprehensions as expressions -/
section
variable {elt tg iter tg1 iter1 : Expr} {ifs ifs1 : List Expr} {scope : Scope} {own : List (Str × Nat)} {pos : Pos} {I I1 : RA} {b b1 : Bn} {C C1 : RB} {R : RE}
abbrev BlkP (X : Cx) (scope : Scope) (P : Cx → Prop) : Prop := ∀ (s : Shared) (H : Hp) (Ca : Addr) (cl : List (Str × Addr)) (fp : List Addr), P (X.blk s H scope (compEnvC scope cl Ca X.env) fp)
theorem df_lc (hc : X.calm = true) (hN : X.N.Nodup) (hi : DI X T tg iter I) (ok : BlkOk X.N X.env.scope scope own) (hb : ∀ i ∈ b.slots, i ∈ own.map (·.2))
    (hg : BlkP X scope fun Y => DG Y tg b) (ht : BlkP X scope fun Y => DTs Y T ifs C) (he : BlkP X scope fun Y => DE Y T elt R) (hs : ∀ x, foldedSetIterable iter X.env x = pure x := by intro _; rfl) :
    DF X T (.ListComp elt [⟨tg, iter, ifs, 0⟩] scope pos) (rLc (own.map (·.2)) I b C R) :=
  pe_weak (pe_lc (wi := iD X.K T I) (g := gB X.K b) (tt := tDT X.K T C) (te := tD X.K T R) hc hN hi ok hg ht he hs) fun σ H Q q => lc_run hb q
theorem de_lc (hc : X.calm = true) (hN : X.N.Nodup) (hi : DI X T tg iter I) (ok : BlkOk X.N X.env.scope scope own) (hb : ∀ i ∈ b.slots, i ∈ own.map (·.2))
    (hg : BlkP X scope fun Y => DG Y tg b) (ht : BlkP X scope fun Y => DTs Y T ifs C) (he : BlkP X scope fun Y => DE Y T elt R) (hs : ∀ x, foldedSetIterable iter X.env x = pure x := by intro _; rfl) :
    DE X T (.ListComp elt [⟨tg, iter, ifs, 0⟩] scope pos) (rLst' (rLc (own.map (·.2)) I b C R)) := (df_lc hc hN hi ok hb hg ht he hs).de
/-- name = [..] (one line) -/
theorem ds_setLc {i : Nat} {y : Str} {py spos : Pos} (hc : X.calm = true) (hN : X.N.Nodup) (hy : X.N[i]? = some y) (hyl : X.env.scope.names.lookup y = some .local)
    (hsw : swapsWith (.ListComp elt [⟨tg, iter, ifs, 0⟩] scope pos) (some (.Name y py)) spos.line X.env = pure true) (hi : DI X T tg iter I) (ok : BlkOk X.N X.env.scope scope own) (hb : ∀ i ∈ b.slots, i ∈ own.map (·.2))
    (hg : BlkP X scope fun Y => DG Y tg b) (ht : BlkP X scope fun Y => DTs Y T ifs C) (he : BlkP X scope fun Y => DE Y T elt R) (hs : ∀ x, foldedSetIterable iter X.env x = pure x := by intro _; rfl) :
    DS X T (.Assign [.Name y py] (.ListComp elt [⟨tg, iter, ifs, 0⟩] scope pos) spos) (wSet i (rLst' (rLc (own.map (·.2)) I b C R))) :=
  ds_setG (ps_weak (ps_setLc (wi := iD X.K T I) (g := gB X.K b) (tt := tDT X.K T C) (te := tD X.K T R) hc hN hy hyl hsw hi ok hg ht he hs) fun D σ H q => by
    have q' : tD X.K T (rLst' (rLc (own.map (·.2)) I b C R)) σ H fun x H1 => gName i x σ H1 D.nx := q
    obtain ⟨ρ, d, M, S, ⟨ds, r, e1⟩, k⟩ := q'
    subst e1
    exact lc_run hb ⟨ρ, ds, M, S, r, fun p H' vs g hp hp' t => k _ H' g (.lst (hid_of (hp.msk S.msk) hp') (t.less fun a ha => List.mem_cons_of_mem _ ha))⟩)
/-- name = [..] (one line), the new list owned -/
theorem ds_ownLc {i : Nat} {y : Str} {py spos : Pos} (hc : X.calm = true) (hN : X.N.Nodup) (hy : X.N[i]? = some y) (hyl : X.env.scope.names.lookup y = some .local)
    (hsw : swapsWith (.ListComp elt [⟨tg, iter, ifs, 0⟩] scope pos) (some (.Name y py)) spos.line X.env = pure true) (hi : DI X T tg iter I) (ok : BlkOk X.N X.env.scope scope own) (hb : ∀ i ∈ b.slots, i ∈ own.map (·.2))
    (hg : BlkP X scope fun Y => DG Y tg b) (ht : BlkP X scope fun Y => DTs Y T ifs C) (he : BlkP X scope fun Y => DE Y T elt R) (hs : ∀ x, foldedSetIterable iter X.env x = pure x := by intro _; rfl) :
    DS X T (.Assign [.Name y py] (.ListComp elt [⟨tg, iter, ifs, 0⟩] scope pos) spos) (wOwn i (rLc (own.map (·.2)) I b C R)) :=
  ds_ownG (ps_weak (ps_setLc (wi := iD X.K T I) (g := gB X.K b) (tt := tDT X.K T C) (te := tD X.K T R) hc hN hy hyl hsw hi ok hg ht he hs) fun D σ H q => lc_run hb q)

/-! ### [.. for .. for ..] -/
inductive Lc2Run (b : Bn) (C : RB) (I1 : RA) (b1 : Bn) (C1 : RB) (R : RE) (ρ : DEnv) : List PyData → List PyData → Prop
  | nil : Lc2Run b C I1 b1 C1 R ρ [] []
  | yes {d : PyData} {ρ' : DEnv} {ds ds1 ys zs : List PyData} : b.bind d ρ ρ' → C ρ' true → I1 ρ' ds1 → LcRun b1 C1 R (wipeD ρ' b1.slots) ds1 ys → Lc2Run b C I1 b1 C1 R ρ ds zs → Lc2Run b C I1 b1 C1 R ρ (d :: ds) (ys ++ zs)
  | no {d : PyData} {ρ' : DEnv} {ds ys : List PyData} : b.bind d ρ ρ' → C ρ' false → Lc2Run b C I1 b1 C1 R ρ ds ys → Lc2Run b C I1 b1 C1 R ρ (d :: ds) ys
theorem Lc2Run.of {α : Type} {b : Bn} {C : RB} {I1 : RA} {b1 : Bn} {C1 : RB} {R : RE} {ρ : DEnv} {e : α → PyData} {p : α → Bool} {g : α → List PyData} : ∀ (xs : List α), (∀ x ∈ xs, ∃ ρ', b.bind (e x) ρ ρ' ∧ C ρ' (p x) ∧ (p x = true → ∃ ds1, I1 ρ' ds1 ∧ LcRun b1 C1 R (wipeD ρ' b1.slots) ds1 (g x))) →
    Lc2Run b C I1 b1 C1 R ρ (xs.map e) ((xs.filter p).flatMap g)
  | [], _ => .nil
  | x :: xs, h => by
    have ih := Lc2Run.of xs fun y hy => h y (List.mem_cons_of_mem _ hy)
    obtain ⟨ρ', h1, h2, h3⟩ := h x List.mem_cons_self
    cases q : p x with
    | true =>
      rw [List.filter_cons_of_pos q, List.flatMap_cons]
      obtain ⟨ds1, h4, h5⟩ := h3 q
      exact .yes h1 (by rw [← q]; exact h2) h4 h5 ih
    | false =>
      rw [List.filter_cons_of_neg (by rw [q]; decide)]
      exact .no h1 (by rw [← q]; exact h2) ih
def rLc2 (own : List Nat) (I : RA) (b : Bn) (C : RB) (I1 : RA) (b1 : Bn) (C1 : RB) (R : RE) : RA := fun ρ ys => ∃ ds, I ρ ds ∧ ys.length ≤ 1000000 ∧ Lc2Run b C I1 b1 C1 R (wipeD ρ own) ds ys
/-- the new list so far -/
def Acc (K : PySem.W.Frag) (T : TabL) (M : List Addr) (H1 : Hp) (D : Addr) (ys1 : List PyData) (H : Hp) : Prop := Gr T H1 H ∧ ∃ acc, H D = some (.lst acc) ∧ IsDs K (hid H (D :: M)) acc ys1
theorem Acc.gr {K : PySem.W.Frag} {M : List Addr} {H1 H H' : Hp} {D : Addr} {ys1 : List PyData} (a : Acc K T M H1 D ys1 H) (g : Gr T H H') : Acc K T M H1 D ys1 H' := by
  obtain ⟨g1, acc, h1, h2⟩ := a
  exact ⟨g1.trans g, acc, g.1 _ _ h1 (fun ps z => by cases z), h2.gr g⟩
theorem Acc.mok {K : PySem.W.Frag} {M : List Addr} {H1 H : Hp} {D : Addr} {ys1 : List PyData} (a : Acc K T M H1 D ys1 H) (mk : MOk M H1) (hD : H1 D = none) : MOk (D :: M) H ∧ Le H1 M H (D :: M) := by
  obtain ⟨g1, acc, h1, h2⟩ := a
  refine ⟨fun a ha => ?_, Le.new hD g1⟩
  rcases List.mem_cons.mp ha with e | ha
  · rw [e]; exact ⟨_, h1, nt_lst⟩
  · exact MOk.gr mk g1 a ha
theorem Acc.snoc {K : PySem.W.Frag} {M : List Addr} {H1 H : Hp} {D : Addr} {ys1 : List PyData} {v : V} {y : PyData} (a : Acc K T M H1 D ys1 H) (hD : H1 D = none) (i : IsD K (hid H (D :: M)) v y) (hl : ys1.length < 1000001) :
    ∃ acc, H D = some (.lst acc) ∧ acc.length < sizeLine ∧ Acc K T M H1 D (ys1 ++ [y]) (upd H D (.lst (acc ++ [v]))) := by
  obtain ⟨g1, acc, h1, h2⟩ := a
  refine ⟨acc, h1, ?_, ⟨fun a o h n => ?_, fun t => tabs_lst h1 (g1.2 t)⟩, _, upd_same, ?_⟩
  · rw [h2.length, sizeLine_eq]; omega
  · rw [upd_ne (ne_of_none h hD)]; exact g1.1 a o h n
  · rw [hid_upd List.mem_cons_self]; exact h2.snoc i
theorem wipe_bind {b : Bn} {own : List Nat} (hb : ∀ i ∈ b.slots, i ∈ own) {σ σ2 : L2.St} (o2 : Only2 b.slots (wipe σ own) σ2) (l2 : σ2.length = (wipe σ own).length) : wipe σ2 own = wipe σ own := by
  rw [wipe_only o2 l2 hb]
  apply List.ext_getElem?
  intro j
  rw [wipe_get, wipe_get]
  by_cases hj : j ∈ own
  · rw [if_pos hj, if_pos hj]
    cases σ[j]? <;> rfl
  · rw [if_neg hj, if_neg hj]
theorem wipe_self {b : Bn} {σ σ2 : L2.St} (o2 : Only2 b.slots (wipe σ b.slots) σ2) (l2 : σ2.length = (wipe σ b.slots).length) : wipe σ2 b.slots = wipe σ b.slots := wipe_bind (fun _ h => h) o2 l2
theorem LcRun.split {b : Bn} {C : RB} {R : RE} {ρ : DEnv} {d : PyData} {ds ys : List PyData} (h : LcRun b C R ρ (d :: ds) ys) : ∃ ρ' c, b.bind d ρ ρ' ∧ C ρ' c ∧ ((c = true ∧ ∃ y zs, R ρ' y ∧ ys = y :: zs ∧ LcRun b C R ρ ds zs) ∨ (c = false ∧ LcRun b C R ρ ds ys)) := by
  cases h with
  | yes h1 h2 h3 h4 => exact ⟨_, true, h1, h2, .inl ⟨rfl, _, _, h3, rfl, h4⟩⟩
  | no h1 h2 h4 => exact ⟨_, false, h1, h2, .inr ⟨rfl, h4⟩⟩
theorem Lc2Run.split {b : Bn} {C : RB} {I1 : RA} {b1 : Bn} {C1 : RB} {R : RE} {ρ : DEnv} {d : PyData} {ds ys : List PyData} (h : Lc2Run b C I1 b1 C1 R ρ (d :: ds) ys) :
    ∃ ρ' c, b.bind d ρ ρ' ∧ C ρ' c ∧ ((c = true ∧ ∃ ds1 zs us, I1 ρ' ds1 ∧ LcRun b1 C1 R (wipeD ρ' b1.slots) ds1 zs ∧ ys = zs ++ us ∧ Lc2Run b C I1 b1 C1 R ρ ds us) ∨ (c = false ∧ Lc2Run b C I1 b1 C1 R ρ ds ys)) := by
  cases h with
  | yes h1 h2 h3 h4 h5 => exact ⟨_, true, h1, h2, .inl ⟨rfl, _, _, _, h3, h4, rfl, h5⟩⟩
  | no h1 h2 h4 => exact ⟨_, false, h1, h2, .inr ⟨rfl, h4⟩⟩
theorem lc2_run {K : PySem.W.Frag} {own : List Nat} {I I1 : RA} {C C1 : RB} {b b1 : Bn} {R : RE} (hb : ∀ i ∈ b.slots, i ∈ own) {σ : L2.St} {H : Hp} {Q : VK} (q : tDF K T (rLc2 own I b C I1 b1 C1 R) σ H Q) :
    tLc2 (iD K T I) (gB K b) (tDT K T C) (iD K T I1) (gB K b1) (tDT K T C1) (tD K T R) own b1.slots σ H Q := by
  obtain ⟨ρ, ys, M, S, ⟨ds, hI, hl, run⟩, k⟩ := q
  refine ⟨ρ, ds, M, S, hI, fun J H1 g hlen its D hD => ?_⟩
  have S1 := S.gr g
  have hDM : D ∉ M := S1.fresh hD
  refine loopF its (D :: M) (fun i H2 => ∃ ys1 ys2, Acc K T M H1 D ys1 H2 ∧ ys = ys1 ++ ys2 ∧ Lc2Run b C I1 b1 C1 R (wipeD ρ own) (ds.drop i) ys2) ⟨[], ys, ⟨Gr.upd hD, [], upd_same, .nil⟩, rfl, run⟩ (fun i H2 ⟨_, _, a, _⟩ => a.mok S1.msk hD) (fun H2 ⟨ys1, ys2, a, e, r⟩ => ?_) ?_
  · rw [List.drop_length] at r
    cases r
    rw [List.append_nil] at e
    subst e
    obtain ⟨g1, acc, h1, h2⟩ := a
    exact k D H2 acc (g.trans g1) (WF.of g hD) h1 h2
  · rintro i hlt H2 x H' ⟨ys1, ys2, a, ey, r⟩ g2 ix
    rw [List.drop_eq_getElem_cons hlt] at r
    obtain ⟨ρ', c, hbd, hC, r⟩ := r.split
    have a' := a.gr g2
    obtain ⟨mk', le'⟩ := a'.mok S1.msk hD
    have S3 : Sat K T (D :: M) H' (wipe σ own) (wipeD ρ own) := (S1.le (a'.1.2 S1.tabs) mk' le').wipe own
    refine gB_run S3 ix hbd fun σ2 S4 o2 l2 => ⟨wipe_bind hb o2 l2, ρ', c, D :: M, S4, hC, fun H5 g5 => ?_⟩
    have a5 := a'.gr g5
    rcases r with ⟨ec, ds1, zs, us, hI1, run1, e2, r2⟩ | ⟨ec, r2⟩
    · subst ec
      show (if true = true then _ else _)
      rw [if_pos rfl]
      refine ⟨ρ', ds1, D :: M, S4.gr g5, hI1, fun J1 H6 g6 hl1 its1 => ?_⟩
      have a6 := a5.gr g6
      have S6 := (S4.gr g5).gr g6
      refine loopF its1 (D :: M) (fun j H7 => ∃ zs1 zs2, Acc K T M H1 D (ys1 ++ zs1) H7 ∧ Gr T H6 (upd H7 D (H6 D |>.getD (.lst []))) ∧ Le H6 (D :: M) H7 (D :: M) ∧ zs = zs1 ++ zs2 ∧ LcRun b1 C1 R (wipeD ρ' b1.slots) (ds1.drop j) zs2)
        ⟨[], zs, by rw [List.append_nil]; exact a6, ?_, Le.refl _ _, rfl, run1⟩ (fun j H7 ⟨_, _, a7, _, l7, _⟩ => ⟨(a7.mok S1.msk hD).1, l7⟩) (fun H7 ⟨zs1, zs2, a7, _, _, e7, r7⟩ => ?_) ?_
      · obtain ⟨_, acc, h1, _⟩ := a6
        rw [h1]
        have : upd H6 D (.lst acc) = H6 := by
          funext z
          by_cases ez : z = D
          · subst ez; rw [upd_same, h1]
          · rw [upd_ne ez]
        show Gr T H6 (upd H6 D (.lst acc))
        rw [this]
        exact Gr.refl _ _
      · rw [List.drop_length] at r7
        cases r7
        rw [List.append_nil] at e7
        subst e7
        exact ⟨_, us, a7, by rw [ey, e2, List.append_assoc], r2⟩
      · rintro j hj H7 x1 H8 ⟨zs1, zs2, a7, g7, l7, e7, r7⟩ g8 ix1
        rw [List.drop_eq_getElem_cons hj] at r7
        obtain ⟨ρ'', c1, hbd1, hC1, r7⟩ := r7.split
        have a8 := a7.gr g8
        obtain ⟨mk8, le8⟩ := a8.mok S1.msk hD
        have S8 : Sat K T (D :: M) H8 (wipe σ2 b1.slots) (wipeD ρ' b1.slots) := (S6.le (a8.1.2 S1.tabs) mk8 (l7.trans g8.le)).wipe _
        refine gB_run S8 ix1 hbd1 fun σ3 S9 o3 l3 => ⟨wipe_self o3 l3, ρ'', c1, D :: M, S9, hC1, fun H9 g9 => ?_⟩
        have a9 := a8.gr g9
        have grow : ∀ {H' : Hp}, Gr T H7 H' → Gr T H6 (upd H' D (H6 D |>.getD (.lst []))) := fun {H'} g => by
          obtain ⟨_, acc0, h0, _⟩ := a6
          obtain ⟨_, acc7, h7, _⟩ := a7
          rw [h0] at g7 ⊢
          have g7' : Gr T H6 (upd H7 D (.lst acc0)) := g7
          show Gr T H6 (upd H' D (.lst acc0))
          refine ⟨fun z o hz n => ?_, fun t => tabs_lst (g.1 _ _ h7 fun ps z => by cases z) (g.2 (by
            have := tabs_lst (ys := acc7) upd_same (g7'.2 t)
            have e : upd (upd H7 D (.lst acc0)) D (.lst acc7) = H7 := by
              funext w
              by_cases ew : w = D
              · subst ew; rw [upd_same, h7]
              · rw [upd_ne ew, upd_ne ew]
            rwa [e] at this))⟩
          by_cases ez : z = D
          · subst ez
            rw [upd_same]
            rw [h0] at hz; cases hz; rfl
          · rw [upd_ne ez]
            have := g7'.1 z o hz n
            rw [upd_ne ez] at this
            exact g.1 _ _ this n
        rcases r7 with ⟨ec1, y, ts, hR, e8, r8⟩ | ⟨ec1, r8⟩
        · subst ec1
          show (if true = true then _ else _)
          rw [if_pos rfl]
          refine ⟨ρ'', y, D :: M, S9.gr g9, hR, fun v H10 g10 iv => ?_⟩
          have a10 := a9.gr g10
          obtain ⟨acc, q1, q2, q3⟩ := a10.snoc hD iv (by
            rw [ey, e2, e7, e8] at hl
            simp only [List.length_append, List.length_cons] at hl ⊢
            omega)
          refine ⟨acc, q1, q2, zs1 ++ [y], ts, by rw [← List.append_assoc]; exact q3, ?_, ?_, by rw [e7, e8, List.append_assoc]; rfl, r8⟩
          · have gg := grow ((g8.trans g9).trans g10)
            have e : upd (upd H10 D (.lst (acc ++ [v]))) D (H6 D |>.getD (.lst [])) = upd H10 D (H6 D |>.getD (.lst [])) := by
              funext w
              by_cases ew : w = D
              · subst ew; rw [upd_same, upd_same]
              · rw [upd_ne ew, upd_ne ew, upd_ne ew]
            rw [e]; exact gg
          · have l10 := l7.trans ((g8.trans g9).trans g10).le
            intro z o hz n
            have := l10 z o hz n
            rw [hid_upd List.mem_cons_self]
            exact this
        · subst ec1
          show (if false = true then _ else _)
          rw [if_neg (by decide)]
          exact ⟨zs1, zs2, a9, grow (g8.trans g9), l7.trans (g8.trans g9).le, e7, r8⟩
    · subst ec
      show (if false = true then _ else _)
      rw [if_neg (by decide)]
      exact ⟨ys1, ys2, a5, ey, r2⟩
theorem df_lc2 (hc : X.calm = true) (hN : X.N.Nodup) (hi : DI X T tg iter I) (ok : BlkOk X.N X.env.scope scope own) (hb : ∀ i ∈ b.slots, i ∈ own.map (·.2)) (hb1 : ∀ i ∈ b1.slots, i ∈ own.map (·.2))
    (hg : BlkP X scope fun Y => DG Y tg b) (ht : BlkP X scope fun Y => DTs Y T ifs C) (hi1 : BlkP X scope fun Y => DI Y T tg1 iter1 I1) (hg1 : BlkP X scope fun Y => DG Y tg1 b1) (ht1 : BlkP X scope fun Y => DTs Y T ifs1 C1)
    (he : BlkP X scope fun Y => DE Y T elt R) (hs : ∀ x, foldedSetIterable iter X.env x = pure x := by intro _; rfl) (hs1 : ∀ env x, foldedSetIterable iter1 env x = pure x := by intro _ _; rfl) :
    DF X T (.ListComp elt [⟨tg, iter, ifs, 0⟩, ⟨tg1, iter1, ifs1, 0⟩] scope pos) (rLc2 (own.map (·.2)) I b C I1 b1 C1 R) :=
  pe_weak (pe_lc2 (wi := iD X.K T I) (wi1 := iD X.K T I1) (g := gB X.K b) (g1 := gB X.K b1) (tt := tDT X.K T C) (tt1 := tDT X.K T C1) (te := tD X.K T R) hc hN hi ok hb1 hg ht hi1 hg1 ht1 he hs hs1) fun σ H Q q => lc2_run hb q
theorem ds_setLc2 {i : Nat} {y : Str} {py spos : Pos} (hc : X.calm = true) (hN : X.N.Nodup) (hy : X.N[i]? = some y) (hyl : X.env.scope.names.lookup y = some .local)
    (hsw : swapsWith (.ListComp elt [⟨tg, iter, ifs, 0⟩, ⟨tg1, iter1, ifs1, 0⟩] scope pos) (some (.Name y py)) spos.line X.env = pure true) (hi : DI X T tg iter I) (ok : BlkOk X.N X.env.scope scope own) (hb : ∀ i ∈ b.slots, i ∈ own.map (·.2)) (hb1 : ∀ i ∈ b1.slots, i ∈ own.map (·.2))
    (hg : BlkP X scope fun Y => DG Y tg b) (ht : BlkP X scope fun Y => DTs Y T ifs C) (hi1 : BlkP X scope fun Y => DI Y T tg1 iter1 I1) (hg1 : BlkP X scope fun Y => DG Y tg1 b1) (ht1 : BlkP X scope fun Y => DTs Y T ifs1 C1)
    (he : BlkP X scope fun Y => DE Y T elt R) (hs : ∀ x, foldedSetIterable iter X.env x = pure x := by intro _; rfl) (hs1 : ∀ env x, foldedSetIterable iter1 env x = pure x := by intro _ _; rfl) :
    DS X T (.Assign [.Name y py] (.ListComp elt [⟨tg, iter, ifs, 0⟩, ⟨tg1, iter1, ifs1, 0⟩] scope pos) spos) (wSet i (rLst' (rLc2 (own.map (·.2)) I b C I1 b1 C1 R))) :=
  ds_setG (ps_weak (ps_setLc2 (wi := iD X.K T I) (wi1 := iD X.K T I1) (g := gB X.K b) (g1 := gB X.K b1) (tt := tDT X.K T C) (tt1 := tDT X.K T C1) (te := tD X.K T R) hc hN hy hyl hsw hi ok hb1 hg ht hi1 hg1 ht1 he hs hs1) fun D σ H q => by
    have q' : tD X.K T (rLst' (rLc2 (own.map (·.2)) I b C I1 b1 C1 R)) σ H fun x H1 => gName i x σ H1 D.nx := q
    obtain ⟨ρ, d, M, S, ⟨ds, r, e1⟩, k⟩ := q'
    subst e1
    exact lc2_run hb ⟨ρ, ds, M, S, r, fun p H' vs g hp hp' t => k _ H' g (.lst (hid_of (hp.msk S.msk) hp') (t.less fun a ha => List.mem_cons_of_mem _ ha))⟩)
end
end
end Vk

/-! ## VkSort -/
set_option Elab.async false
set_option linter.all false
set_option maxRecDepth 100000
set_option maxHeartbeats 1000000
/-! Sorting: tuples of which some are empty; sorted(xs) over data. -/
namespace Vk
open PySem PySem.Spec PyProof.Rows PySem.W PySem.SeqAt

section
variable {prog : Program} {w : World} {A : Around} {s : Shared}
/-- tuple's own __lt__ as sorting calls it -/
theorem call_tupleLt {E : Value → Shared → Prop} {Q : Value → Shared → Prop} {l b : Addr} {items items2 : Array Value} {e r : Nat → Bool} (hl : s.heap.IsTuple l items) (hb : s.heap.IsTuple b items2)
    (he : ∀ j (h1 : j < items.size) (h2 : j < items2.size), EqAt A.in1 s items[j] items2[j] (e j)) (hr : ∀ j (h1 : j < items.size) (h2 : j < items2.size), e j = false → RcLt A.in1 s items[j] items2[j] (r j))
    (h : Q (.bool (firstLt e r (decide (items.size < items2.size)) (List.range (min items.size items2.size)))) s) : wpAny (model prog w) A (call (.builtin "tuple.__lt__") [.ref l, .ref b]) Q E s := by
  obtain ⟨o, ho, hc, n, hd⟩ := id hl
  obtain ⟨o2, ho2, hc2, n2, hd2⟩ := id hb
  cases o
  cases o2
  simp only at hc hd hc2 hd2
  subst hc hd hc2 hd2
  exact call_meets F.slot_tuple_lt ⟨_, ho, rfl⟩ F.entry_tuple_lt (F.args_tuple_lt_2 _ _) (tuple_ltAt l b items items2 n n2 _ _ _ _ e r) ⟨ho, ho2, he, hr, h⟩
/-- two tuples, their common class known -/
theorem oneLt_tuple {xs ys : List PyData} {a b : Value} {as bs : List Addr} {Q : Bool → Shared → Prop} {E : Value → Shared → Prop} (ra : Reads s.heap a (.tuple xs) as) (rb : Reads s.heap b (.tuple ys) bs) (h : alike (.tuple xs) (.tuple ys) = true)
    (hu : A.units + min (PyData.tuple xs).depth (PyData.tuple ys).depth < cLine) (hq : Q (dataLt (.tuple xs) (.tuple ys)) s) : wpAny (model prog w) A (oneLt' true a b) Q E s := by
  have hal : alikeAll xs ys = true := by simpa [alike] using h
  cases ra with
  | @tuple l o vs n _ as₁ h1 h2 h3 h4 =>
    cases rb with
    | @tuple l' o' vs' n' _ bs₁ k1 k2 k3 k4 =>
      have n1 : vs.size = xs.length := by simpa using ReadsAll.length _ _ _ h4
      have n2 : vs'.size = ys.length := by simpa using ReadsAll.length _ _ _ k4
      rw [dataLt_tuple, ← firstLt_toks xs ys hal, ← n1, ← n2] at hq
      rw [oneLt'_eq]
      simp only [if_true]
      refine wpAny_bind (wpAny_cRoomFor (room_here hu) ?_)
      refine wpAny_bind (wpAny_callSpecialIfBound?_slot (T := "tuple") ⟨_, h1, h2⟩ F.slot_tuple_lt (call_tupleLt (e := pairEq xs ys) (r := fun j => dataLt (xs.getD j .none) (ys.getD j .none)) ⟨_, h1, h2, _, h3⟩ ⟨_, k1, k2, _, k3⟩ (fun j j1 j2 => ?_) (fun j j1 j2 hj => ?_) ?_))
      · have := eqAt_alikeAll xs ys A.in1 s vs.toList vs'.toList _ _ h4 k4 hal (room_in hu) j (by simpa using j1) (by simpa using j2)
        simpa using this
      · have := rcLt_alikeAll xs ys A.in1 s vs.toList vs'.toList _ _ h4 k4 hal (room_in hu) j (by simpa using j1) (by simpa using j2) hj
        simpa using this
      · exact wpAny_truthy_bool hq
theorem looks_tup {M : Model} {v : Value} {xs : List PyData} {as : List Addr} (r : Reads s.heap v (.tuple xs) as) : Looks M s.heap (typeOf v) (Value.type "tuple") := looks_reads r
/-- the first items -/
theorem firsts_tups {M : Model} {E : Value → Shared → Prop} : ∀ {vs : List Value} {ds : List PyData} {Q : List (Option Value) → Shared → Prop}, EachIs (fun v d => ∃ as, Reads s.heap v d as) vs ds → (∀ d ∈ ds, ∃ xs, d = .tuple xs) →
    (∀ fs : List (Option Value), EachIs (fun f d => (f.isSome = true ↔ d ≠ .tuple [])) fs ds → Q fs s) → wpAny M A (vs.mapM firstOfTuple') Q E s
  | _, _, Q, .nil, _, h => by rw [List.mapM_nil]; exact wpAny_pure (h [] .nil)
  | _, _, Q, .cons (a := v) (b := d) (as := vs) (bs := ds) ⟨as, r⟩ t, ht, h => by
    obtain ⟨xs, rfl⟩ := ht d List.mem_cons_self
    rw [List.mapM_cons, kas_first_eq]
    cases r with
    | @tuple l o us n _ _ h1 h2 h3 h4 =>
      refine wpAny_bind (wpAny_bind ((looks_tup (xs := xs) (.tuple h1 h2 h3 h4)).here ?_))
      rw [if_neg (by decide)]
      refine wpAny_bind (listItems_at h1 h3 (wpAny_pure ?_))
      refine wpAny_bind (firsts_tups t (fun d hd => ht d (List.mem_cons_of_mem _ hd)) fun fs hf => wpAny_pure (h _ (.cons ?_ hf)))
      have n1 : us.size = xs.length := by simpa using ReadsAll.length _ _ _ h4
      cases xs with
      | nil =>
        have : us[0]? = none := by simp at n1; simp [n1]
        rw [this]; simp
      | cons x r =>
        have hl : 0 < us.size := by rw [n1]; simp
        have : us[0]? = some (us[0]'hl) := Array.getElem?_eq_getElem hl
        rw [this]; simp
/-- tuples, an empty one among them -/
theorem sortsAt_tups {vs : List Value} {ds : List PyData} (e : EachIs (fun v d => ∃ as, Reads s.heap v d as) vs ds) (hal : AllAlike ds) (ht : ∀ d ∈ ds, ∃ xs, d = .tuple xs) (hu : ∀ d, d ∈ ds → A.units + d.depth < cLine) : SortsAt prog w A s (dataKind s.heap ds) vs := by
  by_cases hne : ∀ d ∈ ds, d ≠ .tuple []
  · refine SortsAt.data e hal (.inl fun d hd => ?_) hu
    obtain ⟨xs, rfl⟩ := ht d hd
    cases xs with
    | nil => exact absurd rfl (hne _ hd)
    | cons x r => exact ⟨x, r, rfl⟩
  have room : ∀ {d d' : PyData}, d ∈ ds → A.units + min d.depth d'.depth < cLine := fun {d d'} hd => Nat.lt_of_le_of_lt (Nat.add_le_add_left (Nat.min_le_left _ _) _) (hu d hd)
  refine ⟨fun v hv => ?_, ?_⟩
  · obtain ⟨d, hd, as, r⟩ := e.left v hv
    exact ⟨_, dataKind_some hal hd r⟩
  -- the kind is told by the first item
  have lt1 : H.LtAt prog w A s (dataKind s.heap ds) oneType' := by
    intro E x y a b Q ha hb hq
    obtain ⟨d, as, hd, ra, rfl⟩ := dataKind_inv ha
    obtain ⟨d', as', hd', rb, rfl⟩ := dataKind_inv hb
    rw [keyLt'_oneType]
    obtain ⟨xs, rfl⟩ := ht d hd
    obtain ⟨ys, rfl⟩ := ht d' hd'
    exact oneLt_tuple ra rb (hal _ hd _ hd') (room hd) hq
  have lt0 : H.LtAt prog w A s (dataKind s.heap ds) general' := by
    intro E x y a b Q ha hb hq
    obtain ⟨d, as, hd, ra, rfl⟩ := dataKind_inv ha
    obtain ⟨d', as', hd', rb, rfl⟩ := dataKind_inv hb
    obtain ⟨xs, rfl⟩ := ht d hd
    show wpAny (model prog w) A (oneLt' false x y) Q E s
    exact oneLt_alike (fun z => nomatch z) ra rb (hal _ hd _ hd') (fun z => nomatch z) (room hd) hq
  cases ds with
  | nil => exact ⟨oneType', lt1, fun h2 => by cases e; exact absurd h2 (by simp)⟩
  | cons d₀ ds₀ =>
    have allF : ∀ fs : List (Option Value), EachIs (fun f d => (f.isSome = true ↔ d ≠ .tuple [])) fs (d₀ :: ds₀) → ¬ (fs.toArray.all (·.isSome)) = true := fun fs hf z => by
      refine hne fun d hd => ?_
      have z' : fs.all (·.isSome) = true := by simpa using z
      have key : ∀ {l : List (Option Value)} {m : List PyData}, EachIs (fun f d => (f.isSome = true ↔ d ≠ .tuple [])) l m → l.all (·.isSome) = true → ∀ d ∈ m, d ≠ .tuple [] := by
        intro l m h
        induction h with
        | nil => intro _ d hd; cases hd
        | cons h _ ih =>
          intro ha d hd
          rw [List.all_cons, Bool.and_eq_true] at ha
          rcases List.mem_cons.mp hd with rfl | hd
          · exact h.1 ha.1
          · exact ih ha.2 d hd
      exact key hf z' d hd
    by_cases h0 : d₀ = .tuple []
    · refine ⟨oneType', lt1, fun h2 E Q hq => ?_⟩
      rw [keyKind'_eq, List.mapM_toArray, map_eq_pure_bind]
      refine wpAny_bind (wpAny_bind (firsts_tups e ht fun fs hf => wpAny_pure ?_))
      rw [if_neg (allF fs hf)]
      cases hf with
      | @cons f _ fr _ hf0 hfr =>
        have ef : f = none := by
          cases f with
          | none => rfl
          | some x => exact absurd h0 (hf0.1 rfl)
        subst ef
        rw [if_neg (by simp)]
        rw [oneTypeOnly'_eq, List.mapM_toArray, map_eq_pure_bind]
        refine wpAny_bind (wpAny_bind (wpAny_bind (kas_mapM (r := Value.type "tuple") _ (fun v hv Q' hq' => ?_) (wpAny_pure ?_))))
        · obtain ⟨d, hd, as, r⟩ := e.left v hv
          obtain ⟨xs, rfl⟩ := ht d hd
          exact (looks_tup r).here hq'
        · cases vs with
          | nil => cases e
          | cons v vr =>
            have hall : ((List.map (fun _ => Value.type "tuple") (v :: vr)).toArray.all fun x => x == Value.type "tuple") = true := by
              simp only [List.all_toArray, List.all_map, List.all_eq_true]
              intro _ _
              rfl
            have h00 : (List.map (fun _ => Value.type "tuple") (v :: vr)).toArray[0]? = some (Value.type "tuple") := by simp
            rw [h00]
            dsimp only
            rw [if_pos hall]
            refine wpAny_pure ?_
            exact wpAny_pure hq
    · refine ⟨general', lt0, fun h2 E Q hq => ?_⟩
      rw [keyKind'_eq, List.mapM_toArray, map_eq_pure_bind]
      refine wpAny_bind (wpAny_bind (firsts_tups e ht fun fs hf => wpAny_pure ?_))
      rw [if_neg (allF fs hf)]
      cases hf with
      | @cons f _ fr _ hf0 hfr =>
        cases f with
        | none => exact absurd (hf0.2 h0) (by simp)
        | some x =>
          rw [if_pos (by simp)]
          exact wpAny_pure hq
/-- what can be sorted -/
def Srt (ds : List PyData) : Prop := Sortable ds ∨ ∀ d ∈ ds, ∃ xs, d = .tuple xs
theorem sortsAt_any {vs : List Value} {ds : List PyData} (e : EachIs (fun v d => ∃ as, Reads s.heap v d as) vs ds) (hal : AllAlike ds) (hk : Srt ds) (hu : ∀ d, d ∈ ds → A.units + d.depth < cLine) : SortsAt prog w A s (dataKind s.heap ds) vs :=
  hk.elim (fun h => SortsAt.data e hal h hu) fun h => sortsAt_tups e hal h hu
end

/-! ### sorted(xs) over data -/
section
open L2 LamX StX
variable {X : Cx} {T : TabL}
theorem isDs_zip {K : PySem.W.Frag} {H : Hp} : ∀ {vs : List V} {ds : List PyData}, IsDs K H vs ds → ∀ p ∈ vs.zip ds, IsD K H p.1 p.2
  | _, _, .nil, p, h => by simp at h
  | _, _, .cons h t, p, hp => by
    rw [List.zip_cons_cons] at hp
    rcases List.mem_cons.mp hp with rfl | hp
    · exact h
    · exact isDs_zip t p hp
theorem isDs_of {K : PySem.W.Frag} {H : Hp} : ∀ {zs : List (V × PyData)}, (∀ p ∈ zs, IsD K H p.1 p.2) → IsDs K H (zs.map Prod.fst) (zs.map Prod.snd)
  | [], _ => .nil
  | p :: zs, h => .cons (h p List.mem_cons_self) (isDs_of fun q hq => h q (List.mem_cons_of_mem _ hq))
theorem each_zip {R : V → Value → Prop} {B : List PyData} : ∀ {vs : List V} {us : List Value} {ds : List PyData}, Vals vs us → vs.length = ds.length → EachIs (fun u (p : V × PyData) => RelV p.1 u) us (vs.zip ds)
  | _, _, [], .nil, _ => .nil
  | _, _, [], .cons _ _, h => by cases h
  | _, _, d :: ds, .nil, h => by cases h
  | _, _, d :: ds, .cons r t, h => .cons r (each_zip (R := R) (B := B) t (Nat.succ.inj h))
theorem each_vals : ∀ {us : List Value} {zs : List (V × PyData)}, EachIs (fun u (p : V × PyData) => RelV p.1 u) us zs → Vals (zs.map Prod.fst) us
  | _, _, .nil => .nil
  | _, _, .cons h t => .cons h (each_vals t)
theorem map_snd_zip {α β : Type} : ∀ {as : List α} {bs : List β}, as.length = bs.length → (as.zip bs).map Prod.snd = bs
  | [], [], _ => rfl
  | a :: as, b :: bs, h => by rw [List.zip_cons_cons, List.map_cons, map_snd_zip (Nat.succ.inj h)]
/-- the data in their order -/
def sortD (ds : List PyData) : List PyData := ds.mergeSort (dataLe false id)
theorem noDict_all : ∀ {ds : List PyData}, (∀ d ∈ ds, noDict d = true) → noDict.noDictAll ds = true
  | [], _ => rfl
  | d :: ds, h => by
    show (noDict d && noDict.noDictAll ds) = true
    rw [h d List.mem_cons_self, noDict_all fun e he => h e (List.mem_cons_of_mem _ he)]; rfl
def phSorted : Phi := fun ds z => ∃ xs, ds = [.list xs] ∧ AllAlike xs ∧ Srt xs ∧ (∀ d ∈ xs, d.depth ≤ 20 ∧ noDict d = true) ∧ z = .list (sortD xs)
theorem cr_sorted (hu : X.A.units + 64 < cLine) : CallR X (.builtin "sorted") fun vs H Q => ∃ a xs ds, vs = [.ref a] ∧ H a = some (.lst xs) ∧ IsDs X.K H xs ds ∧ AllAlike ds ∧ Srt ds ∧ (∀ d ∈ ds, d.depth ≤ 20 ∧ noDict d = true) ∧
    ∀ p ys, H p = none → (∃ zs : List (V × PyData), ys = zs.map Prod.fst ∧ zs.map Prod.snd = sortD ds ∧ ∀ q ∈ zs, q ∈ xs.zip ds) → Q (.ref p) (upd H p (.lst ys)) := by
  intro pins s σ H vs us Q I r h
  obtain ⟨a, xs, ds, rfl, ha, t, hal, hk, hd, q⟩ := h
  rw [Vals.ref1 r]
  obtain ⟨its, rv, hl, hz⟩ := I.list (.inl (.inl ha) : SqL X.K H a xs)
  have hlen := t.length
  have e := each_zip (R := fun _ _ => True) (B := ds) rv hlen
  have hsnd := map_snd_zip hlen
  have er : EachIs (fun u (p : V × PyData) => ∃ as, Reads s.heap u (Prod.snd p) as) its (xs.zip ds) := by
    refine (each_mem e).mono fun u p hp => ?_
    exact Dp.reads I p.2 p.1 u ((isDs_zip t p hp.2).dp (hd p.2 (List.of_mem_zip hp.2).2).2) hp.1
  have er' : EachIs (fun v b => ∃ as, Reads (sortingHeap (copyHeap s.heap its) (s.heap.objs.size + 1) its) v (Prod.snd b) as) its (xs.zip ds) := er.mono fun _ _ ⟨as, r⟩ => ⟨as, PyProof.Rows.Reads.keeps (fun _ _ => sorting_copy_old) r⟩
  have hal' : AllAlike ((xs.zip ds).map Prod.snd) := by rw [hsnd]; exact hal
  have S : SortsAt X.prog X.w X.A.in1.in1 { s with heap := sortingHeap (copyHeap s.heap its) (s.heap.objs.size + 1) its } (dataKind (sortingHeap (copyHeap s.heap its) (s.heap.objs.size + 1) its) ((xs.zip ds).map Prod.snd)) its := by
    refine sortsAt_any (s := { s with heap := sortingHeap (copyHeap s.heap its) (s.heap.objs.size + 1) its }) (each_map (R := fun v d => ∃ as, Reads (sortingHeap (copyHeap s.heap its) (s.heap.objs.size + 1) its) v d as) Prod.snd er') hal' (by rw [hsnd]; exact hk) fun d hd' => ?_
    rw [hsnd] at hd'
    have := (hd d hd').1
    show X.A.units + 2 + d.depth < cLine
    omega
  refine sorted_vals hl.isList S (by rw [← rv.length]; exact hz) ?_
  have key := sortVals_data (h' := sortingHeap (copyHeap s.heap its) (s.heap.objs.size + 1) its) false e er' hal'
  generalize hout : sortVals (dataKind (sortingHeap (copyHeap s.heap its) (s.heap.objs.size + 1) its) ((xs.zip ds).map Prod.snd)) false its its = out at key ⊢
  have hv := each_vals key
  have hpm : ((xs.zip ds).mergeSort (dataLe false Prod.snd)).Perm (xs.zip ds) := List.mergeSort_perm _ _
  have hlz : (((xs.zip ds).mergeSort (dataLe false Prod.snd)).map Prod.fst).length ≤ sizeLine := by
    rw [List.length_map, hpm.length_eq, List.length_zip, ← hlen, Nat.min_self]; exact hz
  obtain ⟨ep, he'⟩ := sortedAll_at s.heap its out.toArray
  refine ⟨.ref (s.heap.objs.size + 1), upd H (s.heap.objs.size + 1) (.lst _), I.laid (t' := s.toks) (fun _ _ => sortedAll_old) (Nat.le_succ _) ⟨hlz, out, ep, hv, he'⟩, rfl, q _ _ (I.hok.fresh (Nat.le_succ _)) ⟨_, rfl, ?_, fun p hp => hpm.mem_iff.mp hp⟩⟩
  show _ = ds.mergeSort (dataLe false id)
  rw [sort_maps (r := dataLe false Prod.snd) (s := dataLe false id) Prod.snd (fun a _ b _ => rfl), hsnd]
theorem cd_sorted (hu : X.A.units + 64 < cLine) : CallD X T (.builtin "sorted") phSorted := ⟨_, cr_sorted hu, fun vs ds z M H Q tb mk i ⟨xs, e, hal, hk, hd, e2⟩ k => by
  subst e; subst e2
  obtain ⟨v, rfl, i1⟩ := isDs_one i
  cases i1 with
  | @lst a us _ h t =>
    refine ⟨a, us, xs, rfl, (hid_some h).2, t.all, hal, hk, hd, fun p ys hp ⟨zs, e1, e2, e3⟩ => ?_⟩
    subst e1
    have tz := isDs_of (zs := zs) fun q hq => isDs_zip t q (e3 q hq)
    rw [e2] at tz
    exact k _ _ (Gr.upd hp) (new_lst (msk_fresh mk hp) hp tz)⟩
end
end Vk

/-! ## VkSets -/
set_option Elab.async false
set_option linter.all false
set_option maxRecDepth 100000
set_option maxHeartbeats 1000000
/-! set(xs), whatever its items are: an invariant by the number of items gone in. -/
namespace Vk
open PySem PySem.Spec PyProof.Rows L2

section
variable {P : Program} {w : World} {A : Around} {E : Value → Shared → Prop} {s : Shared}
/-- one more item goes in -/
def SetStep (P : Program) (w : World) (A : Around) (S : Addr) (h0 : Heap) (items : Array Value) (Iv : Nat → Heap → Prop) : Prop :=
  ∀ (i : Nat) (v : Value) (s : Shared) (Q : Bool → Shared → Prop) (E : Value → Shared → Prop), items[i]? = some v → Iv i s.heap → (∀ b o, h0.get? b = some o → s.heap.get? b = some o) →
    (∀ b h' tk, s.toks ≤ tk → Heap.SameBut S s.heap h' → Iv (i + 1) h' → Q b { s with heap := h', toks := tk }) → wpAny (model P w) A (setAdd S v) Q E s
/-- the invariant looks at the set and at what was there -/
def SetKeep (S : Addr) (h0 : Heap) (Iv : Nat → Heap → Prop) : Prop :=
  ∀ i h h', Iv i h → (∀ o, h.get? S = some o → h'.get? S = some o) → (∀ b o, h0.get? b = some o → h'.get? b = some o) → Iv i h'
theorem set_loopG {I : Addr} {fp wr : List Addr} {G : Array GenState → Array GenState → Prop} {n : Nat} {Pv : Nat → Value → Prop} {St : Nat → Shared → Prop} {R : Result → Shared → Prop} (W : WalksS P w A.in1 I fp wr G n Pv St) (S : Addr) (hSf : S ∉ fp)
    (items : Array Value) (hval : ∀ i v, Pv i v → items[i]? = some v) (h0 : Heap) (hS0 : h0.get? S = none) (hw0 : ∀ b ∈ wr, h0.get? b = none) (Iv : Nat → Heap → Prop) (keep : SetKeep S h0 Iv) (step : SetStep P w A.in1 S h0 items Iv) :
    ∀ (k i : Nat) (s : Shared), n - i = k → i ≤ n → St i s → (∀ b o, h0.get? b = some o → s.heap.get? b = some o) → Iv i s.heap →
      (∀ s', Moved (S :: wr) G s s' → Iv n s'.heap → (∀ b o, h0.get? b = some o → s'.heap.get? b = some o) → R (.ok (.ret .none)) s') →
      codeAny (model P w) A (.builtin "set.update.loop" ⟨[.ref S, .ref I], []⟩) R s := by
  have hSw : S ∉ wr := fun h => hSf (W.sub _ h)
  have up : ∀ b ∈ wr, b ∈ S :: wr := fun b hb => List.mem_cons_of_mem _ hb
  have base : ∀ {s s' : Shared}, Moved wr G s s' → (∀ b o, h0.get? b = some o → s.heap.get? b = some o) → ∀ b o, h0.get? b = some o → s'.heap.get? b = some o :=
    fun m kp b o e => m.heap b o (fun hb => by rw [hw0 b hb] at e; cases e) (kp b o e)
  intro k
  induction k with
  | zero =>
    intro i s hk hi st kp iv hR
    obtain rfl : i = n := by omega
    refine codeAny_builtin F.entry_set_update_loop ?_
    rw [Around.under_plainId F.plain_set_update_loop _]
    show wpAny _ A.in1 (pyNext (.ref I) >>= _) _ _ s
    refine wpAny_bind (W.done s _ _ st fun s' m => ?_)
    show wpAny _ A.in1 (ret Value.none) _ _ s'
    exact wpAny_pure (hR s' (m.mono up) (keep _ _ _ iv (fun o e => m.heap S o hSw e) (base m kp)) (base m kp))
  | succ k ih =>
    intro i s hk hi st kp iv hR
    have hlt : i < n := by omega
    refine codeAny_builtin F.entry_set_update_loop ?_
    rw [Around.under_plainId F.plain_set_update_loop _]
    show wpAny _ A.in1 (pyNext (.ref I) >>= _) _ _ s
    refine wpAny_bind (W.item i s _ _ hlt st fun v s' hP st' m => ?_)
    have kp' := base m kp
    show wpAny _ A.in1 (holding [v] (setAdd S v) >>= _) _ _ s'
    refine wpAny_bind (wpAny_holding (step i v s' _ _ (hval i v hP) (keep _ _ _ iv (fun o e => m.heap S o hSw e) kp') kp' fun b h' tk htk sb iv' => ?_))
    have kp2 : ∀ b o, h0.get? b = some o → h'.get? b = some o := fun b o e => (sb.2 b (fun z => by rw [z, hS0] at e; cases e)).trans (kp' b o e)
    refine wpAny_pure ⟨plainId_quiet F.plain_set_update_loop _, ih (i + 1) _ (by omega) hlt (W.frame _ s' _ _ st' htk fun b hb o e => ?_) kp2 iv' fun s'' m'' iv'' kp'' => ?_⟩
    · rw [sb.2 b (fun z => hSf (z ▸ hb))]; exact e
    · refine hR s'' (Moved.trans W.gtrans ((m.mono up).then_heap htk fun b o hb e => ?_) m'') iv'' kp''
      rw [sb.2 b (fun z => hb (by rw [z]; exact List.mem_cons_self))]; exact e

/-- a new set's object -/
abbrev newSet (w : World) : Obj := { cls := .type "set", dict := none, data := .set #[] 0 (.fresh 0 0 (!w.params.followText "set-order")) }
/-- behind the update of the new set: the set's __init__ -/
def SetEnd (s : Shared) (items : Array Value) (Iv : Nat → Heap → Prop) (r : Value) (s₂ : Shared) : Prop :=
  r = .none ∧ ∃ h' tk, s₂ = { s with heap := h', toks := tk } ∧ Iv items.size h' ∧ ∀ b o, s.heap.get? b = some o → h'.get? b = some o
theorem none_above {h : Heap} {b : Addr} (hb : h.objs.size ≤ b) : h.get? b = none := by
  cases q : h.get? b with
  | none => rfl
  | some o => exact absurd (Nat.lt_of_lt_of_le (Heap.lt_size q) hb) (Nat.lt_irrefl _)
set_option maxHeartbeats 3200000 in
/-- set(xs), xs a list or a tuple: the call but for __init__ -/
theorem call_setG {l : Addr} {items : Array Value} {Iv : Nat → Heap → Prop} {Q : Value → Shared → Prop}
    (hinit : ∀ E : Value → Shared → Prop, wpAny (model P w) A.in1.in1 (Builtin.«set.__init__» ⟨[.ref s.heap.objs.size, .ref l], []⟩) (fun f s₂ => f = .done (.ret .none) ∧ SetEnd s items Iv .none s₂) E { s with heap := s.heap.push (newSet w) })
    (h : ∀ h' tk, Iv items.size h' → (∀ b o, s.heap.get? b = some o → h'.get? b = some o) → Q (.ref s.heap.objs.size) { s with heap := h', toks := tk }) :
    wpAny (model P w) A (call (.type "set") [.ref l]) Q E s := by
  obtain ⟨c, tl, hmro⟩ := F.called_set.mro
  have hmade := F.called_set.made
  have hsub := F.called_set.sub
  refine wpAny_call (codeAny_of_tree ?_)
  show wpAny _ _ (callAny (.type "set") _) _ _ _
  refine wpAny_pure ⟨Code.quiet_builtin _ (by decide +kernel), codeAny_builtin F.entry_type_call ?_⟩
  rw [Around.under_plain (weight_type_call_type "set" [.ref l] []) rfl]
  have h1 := F.called_set.notType
  have h2 := F.called_set.canCreate
  have hct := F.typeCall_set_1 (.ref l)
  repeat (any_goals (first | assumption | wp_step))
  refine codeAny_mono (code_set_led1 (.ref l) (E := E) (Q₁ := fun obj s₁ => obj = .ref s.heap.objs.size ∧ s₁ = { s with heap := s.heap.push (newSet w) }) ⟨rfl, rfl⟩) fun r s₁ hr => ?_
  cases r with
  | error e => exact hr
  | ok fl =>
    cases fl with
    | ret obj =>
      obtain ⟨rfl, rfl⟩ := hr
      have hS : (s.heap.push (newSet w)).get? s.heap.objs.size = some (newSet w) := Heap.get?_push_size _ rfl
      have hT : Shared.TypeIs { s with heap := s.heap.push (newSet w) } (.ref s.heap.objs.size) "set" := ⟨_, hS, rfl⟩
      have hli := F.called_set.init.lookup
      have hbi := F.called_set.init.bind (.ref s.heap.objs.size)
      repeat (any_goals (first | assumption | wp_step))
      refine codeAny_mono (codeAny_call_builtin (R := wants (SetEnd s items Iv) E) F.called_set.init.plain F.entry_set_init (check_set_init_1 hT (wpAny_mono (hinit _) (fun f s₂ hf => ?_) fun _ _ e => e))) fun r₂ s₂ hr₂ => ?_
      · obtain ⟨rfl, hf⟩ := hf
        exact hf
      · cases r₂ with
        | error e => exact hr₂
        | ok fl₂ =>
          cases fl₂ with
          | ret r =>
            obtain ⟨rfl, h', tk, rfl, iv, hk⟩ := hr₂
            repeat (any_goals (first | assumption | wp_step))
            exact h _ _ iv hk
          | _ => exact hr₂.elim
    | _ => exact hr.elim
set_option maxHeartbeats 3200000 in
theorem set_init_list {l : Addr} {items : Array Value} (hh : A.handled = none) (hl : s.heap.IsList l items) (Iv : Nat → Heap → Prop) (keep : SetKeep s.heap.objs.size s.heap Iv) (step : SetStep P w A.in1 s.heap.objs.size s.heap items Iv)
    (h0 : ∀ h, h.get? s.heap.objs.size = some (newSet w) → (∀ b o, s.heap.get? b = some o → h.get? b = some o) → Iv 0 h) (E : Value → Shared → Prop) :
    wpAny (model P w) A (Builtin.«set.__init__» ⟨[.ref s.heap.objs.size, .ref l], []⟩) (fun f s₂ => f = .done (.ret .none) ∧ SetEnd s items Iv .none s₂) E { s with heap := s.heap.push (newSet w) } := by
  have hS : (s.heap.push (newSet w)).get? s.heap.objs.size = some (newSet w) := Heap.get?_push_size _ rfl
  obtain ⟨ol, hol, hcl, nl, hdl⟩ := hl
  obtain ⟨ocls, odict, odata, oslots⟩ := ol
  simp only at hcl hdl
  subst hcl; subst hdl
  have hol' : (s.heap.push (newSet w)).get? l = some { cls := .type "list", dict := odict, data := .seq items nl, slots := oslots } := Heap.get?_push_of_some _ hol
  have hsls := F.sub_list_set
  have hslf := F.sub_list_frozenset
  have hne : (Value.type "list" == Value.type "dict") = false := by decide
  have hl1 : (s.heap.push (newSet w)).IsList l items := ⟨_, hol', rfl, nl, rfl⟩
  have hlS : l < s.heap.objs.size := Heap.lt_size hol
  have hz : (s.heap.push (newSet w)).objs.size = s.heap.objs.size + 1 := Heap.size_push ..
  have hneI : l ≠ (s.heap.push (newSet w)).objs.size := by rw [hz]; exact Nat.ne_of_lt (Nat.lt_succ_of_lt hlS)
  have hSf : s.heap.objs.size ∉ [(s.heap.push (newSet w)).objs.size, l] := by
    rw [hz]; simp only [List.mem_cons, List.mem_singleton, List.not_mem_nil, or_false, not_or]
    exact ⟨Nat.ne_of_lt (Nat.lt_succ_self _), Nat.ne_of_gt hlS⟩
  have hh1 : A.in1.handled = none := by simp [hh]
  unfold Builtin.«set.__init__» noKeywords Builtin.Frozenset.updateFrom
  generalize hPI : pyIter = PI
  wp_walk
  subst hPI
  refine wpAny_pyIter_list hl1 ?_
  refine wpAny_bind (wpAny_runValue ?_)
  refine set_loopG (P := P) (w := w) (A := A) ((Walks.list hh1 _ l hneI items).toS) s.heap.objs.size hSf items (fun i v hv => hv) s.heap (none_above (Nat.le_refl _)) (fun b hb => none_above (by
      rw [List.mem_singleton.mp hb, hz]; exact Nat.le_succ _)) Iv keep (fun i v s' Q E h1 h2 h3 h4 => step i v s' Q E h1 h2 h3 h4) (items.size - 0) 0 _ (by omega) (Nat.zero_le _)
    ⟨⟨_, Heap.get?_push_size _ rfl, rfl, rfl⟩, (hl1.push _)⟩ (fun b o e => Heap.get?_push_of_some _ (Heap.get?_push_of_some _ e)) (h0 _ (Heap.get?_push_of_some _ hS) fun b o e => Heap.get?_push_of_some _ (Heap.get?_push_of_some _ e)) ?hR
  case hR =>
    intro s' hm iv kp
    obtain ⟨h', g2, d', tk', os'⟩ := s'
    have eg : g2 = s.gens := hm.gens
    have ed : d' = s.drawn := hm.drawn
    have eo : os' = s.os := hm.os
    subst eg; subst ed; subst eo
    show wpAny _ _ _ _ _ _
    refine wpAny_pure ?_
    show wpAny _ _ (ret Value.none) _ _ _
    exact wpAny_pure ⟨rfl, rfl, h', tk', rfl, iv, kp⟩
set_option maxHeartbeats 3200000 in
theorem set_init_tuple {l : Addr} {items : Array Value} (hh : A.handled = none) (hl : s.heap.IsTuple l items) (Iv : Nat → Heap → Prop) (keep : SetKeep s.heap.objs.size s.heap Iv) (step : SetStep P w A.in1 s.heap.objs.size s.heap items Iv)
    (h0 : ∀ h, h.get? s.heap.objs.size = some (newSet w) → (∀ b o, s.heap.get? b = some o → h.get? b = some o) → Iv 0 h) (E : Value → Shared → Prop) :
    wpAny (model P w) A (Builtin.«set.__init__» ⟨[.ref s.heap.objs.size, .ref l], []⟩) (fun f s₂ => f = .done (.ret .none) ∧ SetEnd s items Iv .none s₂) E { s with heap := s.heap.push (newSet w) } := by
  have hS : (s.heap.push (newSet w)).get? s.heap.objs.size = some (newSet w) := Heap.get?_push_size _ rfl
  obtain ⟨ol, hol, hcl, nl, hdl⟩ := hl
  obtain ⟨ocls, odict, odata, oslots⟩ := ol
  simp only at hcl hdl
  subst hcl; subst hdl
  have hol' : (s.heap.push (newSet w)).get? l = some { cls := .type "tuple", dict := odict, data := .seq items nl, slots := oslots } := Heap.get?_push_of_some _ hol
  have hsls := F.sub_tuple_set
  have hslf := F.sub_tuple_frozenset
  have hne : (Value.type "tuple" == Value.type "dict") = false := by decide
  have hl1 : (s.heap.push (newSet w)).IsTuple l items := ⟨_, hol', rfl, nl, rfl⟩
  have hlS : l < s.heap.objs.size := Heap.lt_size hol
  have hz : (s.heap.push (newSet w)).objs.size = s.heap.objs.size + 1 := Heap.size_push ..
  have hneI : l ≠ (s.heap.push (newSet w)).objs.size := by rw [hz]; exact Nat.ne_of_lt (Nat.lt_succ_of_lt hlS)
  have hSf : s.heap.objs.size ∉ [(s.heap.push (newSet w)).objs.size, l] := by
    rw [hz]; simp only [List.mem_cons, List.mem_singleton, List.not_mem_nil, or_false, not_or]
    exact ⟨Nat.ne_of_lt (Nat.lt_succ_self _), Nat.ne_of_gt hlS⟩
  have hh1 : A.in1.handled = none := by simp [hh]
  unfold Builtin.«set.__init__» noKeywords Builtin.Frozenset.updateFrom
  generalize hPI : pyIter = PI
  wp_walk
  subst hPI
  refine wpAny_pyIter_tuple hl1 ?_
  refine wpAny_bind (wpAny_runValue ?_)
  refine set_loopG (P := P) (w := w) (A := A) ((Walks.tuple hh1 _ l hneI items).toS) s.heap.objs.size hSf items (fun i v hv => hv) s.heap (none_above (Nat.le_refl _)) (fun b hb => none_above (by
      rw [List.mem_singleton.mp hb, hz]; exact Nat.le_succ _)) Iv keep (fun i v s' Q E h1 h2 h3 h4 => step i v s' Q E h1 h2 h3 h4) (items.size - 0) 0 _ (by omega) (Nat.zero_le _)
    ⟨⟨_, Heap.get?_push_size _ rfl, rfl, rfl⟩, (hl1.push _)⟩ (fun b o e => Heap.get?_push_of_some _ (Heap.get?_push_of_some _ e)) (h0 _ (Heap.get?_push_of_some _ hS) fun b o e => Heap.get?_push_of_some _ (Heap.get?_push_of_some _ e)) ?hR
  case hR =>
    intro s' hm iv kp
    obtain ⟨h', g2, d', tk', os'⟩ := s'
    have eg : g2 = s.gens := hm.gens
    have ed : d' = s.drawn := hm.drawn
    have eo : os' = s.os := hm.os
    subst eg; subst ed; subst eo
    show wpAny _ _ _ _ _ _
    refine wpAny_pure ?_
    show wpAny _ _ (ret Value.none) _ _ _
    exact wpAny_pure ⟨rfl, rfl, h', tk', rfl, iv, kp⟩
/-- set(xs), xs a list or a tuple -/
theorem call_setI {l : Addr} {items : Array Value} {Q : Value → Shared → Prop} (hh : A.handled = none) (hl : s.heap.IsList l items ∨ s.heap.IsTuple l items) (Iv : Nat → Heap → Prop) (keep : SetKeep s.heap.objs.size s.heap Iv) (step : SetStep P w A.in1.in1.in1 s.heap.objs.size s.heap items Iv)
    (h0 : ∀ h, h.get? s.heap.objs.size = some (newSet w) → (∀ b o, s.heap.get? b = some o → h.get? b = some o) → Iv 0 h)
    (h : ∀ h' tk, Iv items.size h' → (∀ b o, s.heap.get? b = some o → h'.get? b = some o) → Q (.ref s.heap.objs.size) { s with heap := h', toks := tk }) :
    wpAny (model P w) A (call (.type "set") [.ref l]) Q E s := by
  have hh2 : A.in1.in1.handled = none := by simp [hh]
  rcases hl with hl | hl
  · exact call_setG (fun E => set_init_list hh2 hl Iv keep step h0 E) h
  · exact call_setG (fun E => set_init_tuple hh2 hl Iv keep step h0 E) h
end
end Vk

/-! ## VkSetSort -/
set_option Elab.async false
set_option linter.all false
set_option maxRecDepth 100000
set_option maxHeartbeats 1000000
/-! sorted(a set), what its items read as known. -/
namespace Vk
open PySem PySem.Spec PyProof.Rows PySem.W PySem.SeqAt L2 PySem.Froz
theorem perm_each {α β : Type} {R : α → β → Prop} {as bs : List α} (p : as.Perm bs) : ∀ {ds : List β}, EachIs R bs ds → ∃ ds', ds'.Perm ds ∧ EachIs R as ds' := by
  induction p with
  | nil => intro ds h; exact ⟨ds, .refl _, h⟩
  | cons x _ ih =>
    intro ds h
    cases h with
    | cons h t =>
      obtain ⟨ds', p, e⟩ := ih t
      exact ⟨_, p.cons _, .cons h e⟩
  | swap x y l =>
    intro ds h
    cases h with
    | cons h t =>
      cases t with
      | cons h' t' => exact ⟨_, .swap _ _ _, .cons h' (.cons h t')⟩
  | trans _ _ ih1 ih2 =>
    intro ds h
    obtain ⟨d1, p1, e1⟩ := ih2 h
    obtain ⟨d2, p2, e2⟩ := ih1 e1
    exact ⟨d2, p2.trans p1, e2⟩
section
variable {P : Program} {w : World} {A : Around} {E : Value → Shared → Prop} {s : Shared} {a : Addr} {es : Array (Int × Value)} {ep : Nat} {t : SetTable}
abbrev RVP : Value → V × PyData → Prop := fun u p => RelV p.1 u
theorem sorted_setG {zs : List (V × PyData)} {Q : Value → Shared → Prop} (hh : A.handled = none) (ha : SetAt s.heap a es ep t) (hf : t.fits es.size = true) (hsz : es.size < scanBound) (r : Ris t.place.toList) (hl : w.params.followText "set-order" = true ∨ t.led = true)
    (e : EachIs (fun u p => RVP u p ∧ ∃ as, Reads s.heap u p.2 as) (es.toList.map (·.2)) zs) (hal : AllAlike (zs.map Prod.snd)) (hk : Srt (zs.map Prod.snd)) (hu : ∀ d ∈ zs.map Prod.snd, A.units + 2 + d.depth < cLine)
    (hQ : ∀ s' p (out : Array Value) (c : Nat) (zs' : List (V × PyData)), (∀ b o, s.heap.get? b = some o → s'.heap.get? b = some o) → s'.gens = s.gens → s'.os = s.os → s.heap.objs.size ≤ p → s'.heap.get? p = some (seqObj "list" out c) → zs'.Perm zs →
      EachIs RVP out.toList (zs'.mergeSort (dataLe false Prod.snd)) → Q (.ref p) s') :
    wpAny (model P w) A (call (.builtin "sorted") [.ref a]) Q E s := by
  refine Calls.call_function_entry kind_sorted plain_sorted entry_sorted (args_sorted1 _) ?_
  unfold Builtin.«sorted»
  refine wpAny_bind (m := checkCount "sorted" 1 1 _) (wpAny_pure ?_)
  refine wpAny_bind (collect_set (A := A.in1) hh ha hf hsz r hl fun s1 vs k1 hz g1 o1 pm => ?_)
  obtain ⟨zs', pz, ez⟩ := perm_each pm e
  have hlen : vs.length < scanBound := by rw [pm.length_eq, List.length_map, Array.length_toList]; exact hsz
  have hL : vs.length ≤ sizeLine := by rw [sizeLine_eq]; unfold scanBound at hlen; omega
  refine wpAny_bind (wpAny_newList ?_ (by exact hL))
  have hoL : (s1.heap.push (seqObj "list" vs.toArray 0)).get? s1.heap.objs.size = some (seqObj "list" vs.toArray 0) := Heap.get?_push_size _ rfl
  have pd : (zs'.map Prod.snd).Perm (zs.map Prod.snd) := pz.map _
  have hal' : AllAlike (zs'.map Prod.snd) := fun d hd d' hd' => hal d (pd.mem_iff.mp hd) d' (pd.mem_iff.mp hd')
  have hk' : Srt (zs'.map Prod.snd) := by
    rcases hk with (k | k) | k
    · exact .inl (.inl fun d hd => k d (pd.mem_iff.mp hd))
    · exact .inl (.inr fun d hd => k d (pd.mem_iff.mp hd))
    · exact .inr fun d hd => k d (pd.mem_iff.mp hd)
  have er : EachIs (fun v (b : V × PyData) => ∃ as, Reads (sortingHeap (s1.heap.push (seqObj "list" vs.toArray 0)) s1.heap.objs.size vs) v (Prod.snd b) as) vs zs' := ez.mono fun u p ⟨_, as, q⟩ => by
    refine ⟨as, PyProof.Rows.Reads.keeps (fun b o hb => ?_) q⟩
    have hb1 := k1 b o hb
    exact sortingHeap_old (Nat.ne_of_lt (Heap.lt_size hb1)) (Heap.get?_push_of_some _ hb1)
  have S : SortsAt P w A.in1.in1 { s1 with heap := sortingHeap (s1.heap.push (seqObj "list" vs.toArray 0)) s1.heap.objs.size vs } (dataKind (sortingHeap (s1.heap.push (seqObj "list" vs.toArray 0)) s1.heap.objs.size vs) (zs'.map Prod.snd)) vs := by
    refine sortsAt_any (s := { s1 with heap := sortingHeap (s1.heap.push (seqObj "list" vs.toArray 0)) s1.heap.objs.size vs }) (each_map (R := fun v d => ∃ as, Reads (sortingHeap (s1.heap.push (seqObj "list" vs.toArray 0)) s1.heap.objs.size vs) v d as) Prod.snd er) hal' hk' fun d hd => ?_
    exact hu d (pd.mem_iff.mp hd)
  have key := sortVals_data (h' := sortingHeap (s1.heap.push (seqObj "list" vs.toArray 0)) s1.heap.objs.size vs) false (ez.mono fun u p q => q.1) er hal'
  generalize hout : sortVals (dataKind (sortingHeap (s1.heap.push (seqObj "list" vs.toArray 0)) s1.heap.objs.size vs) (zs'.map Prod.snd)) false vs vs = out at key ⊢
  refine wpAny_bind (wpAny_holding (wpAny_call_entry slot_list_sort ⟨_, hoL, rfl⟩ entry_list_sort (list_sort_vals (s := { s1 with heap := s1.heap.push (seqObj "list" vs.toArray 0) }) hoL S hL ?_) (args_list_sort _)))
  rw [hout]
  obtain ⟨c, hc⟩ := sortedHeap_at (vs := vs) (out := out.toArray) hoL
  refine ⟨_, rfl, wpAny_pure ⟨_, rfl, hQ _ s1.heap.objs.size out.toArray c zs' (fun b u q => ?_) g1 o1 hz hc pz key⟩⟩
  have q := k1 b u q
  have hlt := Heap.lt_size q
  show (sortedHeap (s1.heap.push (seqObj "list" vs.toArray 0)) s1.heap.objs.size vs out.toArray).get? b = some u
  rw [sortedHeap_old (Nat.ne_of_lt hlt) (by rw [size_push']; exact Nat.lt_succ_of_lt hlt)]
  exact Heap.get?_push_of_some _ q
end

/-! ### texts -/
section
variable {P : Program} {w : World} {A : Around} {E : Value → Shared → Prop} {s : Shared}
theorem tailTx_ris {ep : Nat} {es1 : Array (Int × Value)} {t2 : SetTable} {wd : Bool} (r : Ris t2.place.toList) : Ris (tailTx ep es1 t2 wd).2.2.place.toList ∧ (tailTx ep es1 t2 wd).2.2.led = t2.led := by
  unfold tailTx
  by_cases c : (!wd && t2.tooFull) = true
  · rw [if_pos c]
    exact ⟨relayAll_ris _ _ _, relayAll_led _ _ _⟩
  · rw [if_neg c]
    exact ⟨r, rfl⟩
theorem addTx_ris {h : Int} {v : Value} {D : SD} (r : Ris D.2.2.place.toList) : Ris (addTx h v D).2.2.place.toList ∧ (addTx h v D).2.2.led = D.2.2.led := by
  obtain ⟨es, ep, t⟩ := D
  have r1 := layNew_ris t es h v r
  have l1 := layNew_led t es h v
  show Ris (tailTx ep (layNew t es h v).1 (if (layNew t es h v).2.1.plain = true then { (layNew t es h v).2.1 with plain := false } else (layNew t es h v).2.1) (layNew t es h v).2.2.1).2.2.place.toList ∧
    (tailTx ep (layNew t es h v).1 (if (layNew t es h v).2.1.plain = true then { (layNew t es h v).2.1 with plain := false } else (layNew t es h v).2.1) (layNew t es h v).2.2.1).2.2.led = t.led
  by_cases c : (layNew t es h v).2.1.plain = true
  · rw [if_pos c]
    obtain ⟨a, b⟩ := tailTx_ris (ep := ep) (es1 := (layNew t es h v).1) (t2 := { (layNew t es h v).2.1 with plain := false }) (wd := (layNew t es h v).2.2.1) r1
    exact ⟨a, b.trans l1⟩
  · rw [if_neg c]
    obtain ⟨a, b⟩ := tailTx_ris (ep := ep) (es1 := (layNew t es h v).1) (t2 := (layNew t es h v).2.1) (wd := (layNew t es h v).2.2.1) r1
    exact ⟨a, b.trans l1⟩
/-- a text that is in already -/
theorem has_add {a : Addr} {T : String} {D : SD} {l : List Str} {k : Str} {u : Tok} {Q : Bool → Shared → Prop} (ho : s.heap.get? a = some (sObj T D)) (F : TxOk P w D l) (hk : k ∈ l) (hb : l.length < scanBound) (h : Q false s) :
    wpAny (model P w) A (setAddHashed a (.str k u) (hashStr w k)) Q E s := by
  obtain ⟨es, ep, t⟩ := D
  have hd : (sObj T (es, ep, t)).data = .set es ep t := rfl
  have hsz : es.size = l.length := F.sz
  have hkey : (strKind P w).is k (.str k u) = true := is_str k u
  unfold setAddHashed setAddHashedIn
  refine wpAny_holding (wpAny_bind (wpAny_setState_of ho hd F.fit ?_))
  dsimp only
  have hb0 : es.size < scanBound := by omega
  rw [byScan_of (knd := strKind P w) rfl hb0 F.el]
  simp only [↓reduceIte]
  unfold setAddByScan
  refine wpAny_bind ?_
  refine wpAny_bind (wpAny_rule ?_)
  refine wpAny_bind (wpAny_setScan_of (knd := strKind P w) (k := k) hkey ho hd F.fit F.el ?_)
  cases hfi : List.findIdx? (fun e => (strKind P w).is k e.2) es.toList with
  | some j => exact wpAny_pure (wpAny_pure h)
  | none =>
    obtain ⟨e, he, q⟩ := (F.mem k).mp hk
    have c := List.findIdx?_eq_none_iff.mp hfi e he
    rw [q] at c
    cases c
/-- the set of the texts l -/
def TxS (P : Program) (w : World) (h : Heap) (a : Addr) (l : List Str) : Prop := ∃ D : SD, h.get? a = some (sObj "set" D) ∧ TxOk P w D l ∧ Ris D.2.2.place.toList ∧ (w.params.followText "set-order" = true ∨ D.2.2.led = true) ∧ l.Nodup
/-- what has gone in of the first i -/
def TxI (P : Program) (w : World) (a : Addr) (xs : List Str) (i : Nat) (h : Heap) : Prop := ∃ l, TxS P w h a l ∧ (∀ k, k ∈ l ↔ k ∈ xs.take i) ∧ l.length ≤ i
theorem txI_keep {a : Addr} {xs : List Str} {h0 : Heap} : SetKeep a h0 (TxI P w a xs) := fun i h h' ⟨l, ⟨D, q, r⟩, z⟩ k _ => ⟨l, ⟨D, k _ q, r⟩, z⟩
theorem mem_take_succ {α : Type} {xs : List α} {i : Nat} {x : α} (h : xs[i]? = some x) (k : α) : k ∈ xs.take (i + 1) ↔ k ∈ xs.take i ∨ k = x := by
  rw [List.take_succ, h]
  simp
theorem strs_get : ∀ {us : List Value} {xs : List Str} {i : Nat} {v : Value}, StrsAre us xs → us[i]? = some v → ∃ x t, xs[i]? = some x ∧ v = .str x t
  | _, _, i, v, .nil, h => by simp at h
  | _, _, 0, v, .cons n t hr, h => by simp at h; exact ⟨n, t, rfl, h.symm⟩
  | _, _, i + 1, v, .cons n t hr, h => by
    obtain ⟨x, t', h1, h2⟩ := strs_get (i := i) hr (by simpa using h)
    exact ⟨x, t', by simpa using h1, h2⟩
theorem txI_step {a : Addr} {items : Array Value} {xs : List Str} {h0 : Heap} (hi : StrsAre items.toList xs) (hb : xs.length < scanBound) : SetStep P w A a h0 items (TxI P w a xs) := by
  intro i v s Q E hv ⟨l, ⟨D, ho, F, r, ld, nd⟩, hm, hl⟩ kp hQ
  obtain ⟨x, t, hx, rfl⟩ := strs_get hi (by rw [Array.getElem?_toList]; exact hv)
  have hilt : i < xs.length := (List.getElem?_eq_some_iff.mp hx).1
  unfold setAdd
  refine wpAny_holding ?_
  refine wpAny_bind ((strKind P w).pyHash (k := x) (strKind_is _ _ _ _) ?_)
  by_cases hk : x ∈ l
  · refine has_add (s := { s with toks := s.toks + 1 }) ho F hk (by omega) ?_
    exact hQ false s.heap (s.toks + 1) (Nat.le_succ _) (Heap.SameBut.refl _ _) ⟨l, ⟨D, ho, F, r, ld, nd⟩, fun k => by
      rw [mem_take_succ hx, hm k]
      exact ⟨.inl, fun z => z.elim id fun e => by rw [e]; exact (hm x).1 hk⟩, by omega⟩
  · refine add_x (s := { s with toks := s.toks + 1 }) ho F hk (by omega) ?_
    obtain ⟨r', l'⟩ := addTx_ris (h := hashStr w x) (v := .str x t) r
    refine hQ true _ (s.toks + 1) (Nat.le_succ _) (Heap.SameBut.update ..) ⟨x :: l, ⟨_, get_upd _ ho rfl, add_ok t F, r', by rw [l']; exact ld, List.nodup_cons.mpr ⟨hk, nd⟩⟩, fun k => by
      rw [mem_take_succ hx, List.mem_cons, hm k]
      exact Or.comm, by rw [List.length_cons]; omega⟩
theorem txI_zero {a : Addr} {xs : List Str} {h : Heap} (hs : h.get? a = some (newSet w)) : TxI P w a xs 0 h := by
  refine ⟨[], ⟨(#[], 0, .fresh 0 0 (!w.params.followText "set-order")), hs, TxOk.nil rfl, List.Pairwise.nil, ?_, List.nodup_nil⟩, fun k => by simp, Nat.le_refl _⟩
  show _ ∨ (!w.params.followText "set-order") = true
  cases w.params.followText "set-order"
  · exact .inr rfl
  · exact .inl rfl
theorem perm_of_sub {α : Type} [DecidableEq α] : ∀ {l K : List α}, l.Nodup → (∀ x ∈ l, x ∈ K) → K.length ≤ l.length → K.Perm l
  | [], K, _, _, h => by
    rw [List.eq_nil_of_length_eq_zero (Nat.le_zero.mp h)]
  | x :: l, K, nd, hs, h => by
    obtain ⟨n1, n2⟩ := List.nodup_cons.mp nd
    have hx : x ∈ K := hs x List.mem_cons_self
    have hp := List.perm_cons_erase hx
    have hl := List.length_erase_of_mem hx
    have hpos := List.length_pos_of_mem hx
    rw [List.length_cons] at h
    refine hp.trans ((perm_of_sub n2 (fun y hy => ?_) (by omega)).cons x)
    exact (List.mem_erase_of_ne fun e : y = x => n1 (e ▸ hy)).2 (hs y (List.mem_cons_of_mem _ hy))
/-- the texts' values -/
theorem tx_values {D : SD} {l : List Str} (F : TxOk P w D l) (nd : l.Nodup) : ∃ ks : List Str, ks.Perm l ∧ StrsAre (D.1.toList.map (·.2)) ks := by
  have key : ∀ es : List (Int × Value), ElemsOf (strKind P w) es → ∃ ks : List Str, StrsAre (es.map (·.2)) ks ∧ ∀ k, (∃ e ∈ es, (strKind P w).is k e.2 = true) ↔ k ∈ ks := by
    intro es
    induction es with
    | nil => intro _; exact ⟨[], .nil, fun k => by simp⟩
    | cons e es ih =>
      intro h
      obtain ⟨ks, h1, h2⟩ := ih fun x hx => h x (List.mem_cons_of_mem _ hx)
      obtain ⟨⟨k, hk, _⟩, _⟩ := h e List.mem_cons_self
      obtain ⟨hh, v⟩ := e
      have hk' : Value.isStrOf k v = true := hk
      cases v with
      | str x t =>
        have ex : x = k := by simpa [Value.isStrOf] using hk'
        subst ex
        refine ⟨x :: ks, .cons x t h1, fun k => ?_⟩
        rw [List.mem_cons, ← h2 k]
        constructor
        · rintro ⟨e, he, q⟩
          rcases List.mem_cons.mp he with z | z
          · subst z
            have : Value.isStrOf k (.str x t) = true := q
            exact .inl (by simpa [Value.isStrOf] using this : x = k).symm
          · exact .inr ⟨e, z, q⟩
        · rintro (z | ⟨e, he, q⟩)
          · exact ⟨_, List.mem_cons_self, by rw [z]; exact is_str x t⟩
          · exact ⟨e, List.mem_cons_of_mem _ he, q⟩
      | _ => simp [Value.isStrOf] at hk'
  obtain ⟨ks, h1, h2⟩ := key D.1.toList F.el
  refine ⟨ks, perm_of_sub nd (fun x hx => (h2 x).1 ((F.mem x).1 hx)) ?_, h1⟩
  have e1 := StrsAre.len_eq h1
  rw [List.length_map, Array.length_toList, F.sz] at e1
  omega
end
end Vk

/-! ## VkSetTup -/
set_option Elab.async false
set_option linter.all false
set_option maxRecDepth 100000
set_option maxHeartbeats 2000000
/-! Sets of tuples of texts: at most 76 different ones. -/
namespace Vk
open PySem PySem.Spec PyProof.Rows PySem.W PySem.SeqAt L2
section
variable {P : Program} {w : World} {A : Around} {E : Value → Shared → Prop} {s : Shared}
abbrev IsK (P : Program) (w : World) (h : Heap) (k : List Str) (a : Addr) : Prop := IsTupleKey (strKind P w) h k a
abbrev kh (P : Program) (w : World) (k : List Str) : Int := tupleKeyHash (strKind P w) k
theorem isK_keep {h h' : Heap} {k : List Str} {b : Addr} (x : IsK P w h k b) (hk : ∀ o, h.get? b = some o → h'.get? b = some o) : IsK P w h' k b := let ⟨o, items, n, ho, r⟩ := x; ⟨o, items, n, hk o ho, r⟩
theorem key_strs {k : List Str} {vs : List Value} (h : ItemsAre (strKind P w) k vs) : ∀ v ∈ vs, ∃ x t, v = Value.str x t := by
  induction h with
  | nil => intro v hv; cases hv
  | @cons k0 v' ks vs h1 _ ih =>
    intro v hv
    rcases List.mem_cons.mp hv with e | hv
    · subst e
      have h1' : Value.isStrOf k0 v = true := h1
      cases v with
      | str x t => exact ⟨x, t, rfl⟩
      | _ => simp [Value.isStrOf] at h1'
    · exact ih v hv
/-- a question asked of each item of a tuple of texts -/
theorem each_text {γ : Type} {b0 : γ} {items : Array Value} {k : List Str} (hi : ItemsAre (strKind P w) k items.toList) {f : Value → γ → Sem (ForInStep γ)} {Q : γ → Shared → Prop}
    (hf : ∀ (x : Str) (t : Tok) (Q' : ForInStep γ → Shared → Prop), Q' (.yield b0) s → wpAny (model P w) A (f (.str x t) b0) Q' E s) (h : Q b0 s) : wpAny (model P w) A (forIn items b0 f) Q E s := by
  rw [← Array.forIn_toList]
  refine wpAny_forIn_list _ (fun rest r s' => r = b0 ∧ s' = s ∧ ∀ v ∈ rest, ∃ x t, v = Value.str x t) _ ?_ ?_ _ _ ⟨rfl, rfl, key_strs hi⟩
  · rintro v rest r s' ⟨rfl, rfl, hall⟩
    obtain ⟨x, t, rfl⟩ := hall v List.mem_cons_self
    exact hf x t _ ⟨rfl, rfl, fun u hu' => hall u (List.mem_cons_of_mem _ hu')⟩
  · rintro r s' ⟨rfl, rfl, _⟩
    exact h
theorem class_text (n : Nat) (x : Str) (t : Tok) : ofAClassStatement n (.str x t) = pure false := by cases n <;> rfl
theorem hash_text (n : Nat) (x : Str) (t : Tok) : hashByValue n (.str x t) = pure false := by cases n <;> rfl
theorem class_key {k : List Str} {b : Addr} {Q : Bool → Shared → Prop} (hk : IsK P w s.heap k b) (h : Q false s) : wpAny (model P w) A (ofAClassStatement 8 (.ref b)) Q E s := by
  have hT := hk.typeIs
  obtain ⟨o, items, n, ho, _, hd, hi⟩ := hk
  unfold ofAClassStatement
  refine wpAny_bind (wpAny_typeOf hT ?_)
  dsimp only
  have e : (("tuple" : String) == "tuple") = true := by decide
  simp only [e, if_true, Bool.not_true, Bool.false_eq_true, if_false]
  try refine wpAny_bind (wpAny_pure ?_)
  try simp only [Bool.not_true, Bool.false_eq_true, if_false]
  show wpAny _ _ (seqItems? (.ref b) >>= _) _ _ s
  refine wpAny_bind (wpAny_seqItems ho hd ?_)
  dsimp only
  refine wpAny_bind (each_text hi (fun x t Q' hq => ?_) ?_)
  · rw [class_text]
    refine wpAny_bind (wpAny_pure ?_)
    simp only [Bool.false_eq_true, if_false]
    exact wpAny_pure hq
  · exact wpAny_pure h
/-- whether a tuple is hashed by value: either answer -/
theorem hash_key {k : List Str} {b : Addr} {Q : Bool → Shared → Prop} (hk : IsK P w s.heap k b) (h : ∀ c, Q c s) : wpAny (model P w) A (hashByValue 8 (.ref b)) Q E s := by
  have hT := hk.typeIs
  obtain ⟨o, items, n, ho, _, hd, hi⟩ := hk
  unfold hashByValue
  refine wpAny_bind (wpAny_specialOf hT F.slot_tuple_hash.lookup ?_)
  show wpAny _ _ (seqItems? (.ref b) >>= _) _ _ s
  refine wpAny_bind (wpAny_seqItems ho hd ?_)
  refine wpAny_bind ?_
  show wpAny _ _ (forIn items _ _) _ _ s
  rw [← Array.forIn_toList]
  refine wpAny_forIn_list _ (fun rest r s' => s' = s ∧ ∀ v ∈ rest, ∃ x t, v = Value.str x t) _ ?_ ?_ _ _ ⟨rfl, key_strs hi⟩
  · rintro v rest r s' ⟨rfl, hall⟩
    obtain ⟨x, t, rfl⟩ := hall v List.mem_cons_self
    rw [hash_text]
    refine wpAny_bind (wpAny_pure ?_)
    simp only [Bool.not_false, if_true]
    exact wpAny_pure (wpAny_pure (h _))
  · rintro ⟨r1, r2⟩ s' ⟨rfl, _⟩
    cases r1 with
    | none => exact wpAny_pure (h _)
    | some c => exact wpAny_pure (h _)
/-- a search among tuples of texts shows nothing -/
theorem seen_key {k : List Str} {b : Addr} {Q : Bool → Shared → Prop} (hk : IsK P w s.heap k b) {ys : List Value} (hy : ∀ y ∈ ys, ∃ k' c, y = Value.ref c ∧ IsK P w s.heap k' c) (h : Q false s) :
    wpAny (model P w) A (searchCouldBeSeen (.ref b) ys) Q E s := by
  unfold searchCouldBeSeen
  refine wpAny_bind ?_
  refine wpAny_forIn_list _ (fun rest r s' => r.1 = none ∧ s' = s ∧ ∀ y ∈ rest, ∃ k' c, y = Value.ref c ∧ IsK P w s.heap k' c) _ ?_ ?_ _ _ ⟨rfl, rfl, hy⟩
  · rintro v rest r s' ⟨hr, rfl, hall⟩
    obtain ⟨k', c, rfl, hc⟩ := hall v List.mem_cons_self
    have go : ∀ y ∈ rest, ∃ k' c, y = Value.ref c ∧ IsK P w s'.heap k' c := fun u hu' => hall u (List.mem_cons_of_mem _ hu')
    dsimp only
    by_cases hv : (b == c || (carriedByValue (.ref b) && carriedByValue (.ref c))) = true
    · exact wp_if_pos hv (wpAny_pure ⟨rfl, rfl, go⟩)
    · refine wp_if_neg hv (wpAny_bind (wpAny_eqIsQuiet_tuple hk ?_))
      simp only [Bool.not_true, Bool.false_eq_true, if_false]
      refine wpAny_bind (wpAny_eqIsQuiet_tuple hc ?_)
      simp only [Bool.not_true, Bool.false_eq_true, if_false]
      refine wpAny_bind (class_key hk ?_)
      simp only [Bool.false_eq_true, if_false]
      refine wpAny_bind (class_key hc ?_)
      simp only [Bool.false_eq_true, if_false]
      exact wpAny_pure ⟨rfl, rfl, go⟩
  · rintro ⟨r1, r2⟩ s' ⟨hr, rfl, _⟩
    simp only at hr
    subst hr
    exact wpAny_pure h

/-! ### the set -/
abbrev KL : Type := List (Addr × List Str)
def rowK (P : Program) (w : World) (p : Addr × List Str) : Int × Value := (kh P w p.2, Value.ref p.1)
structure KSet (P : Program) (w : World) (h : Heap) (a : Addr) (L : KL) (es : Array (Int × Value)) (ep : Nat) (t : SetTable) : Prop where
  ob : ∃ o, h.get? a = some o ∧ o.ExactSet ∧ o.data = .set es ep t
  rows : es.toList = L.map (rowK P w)
  tab : TabOk t (L.map fun p => kh P w p.2)
  nd : (L.map (·.2)).Nodup
  tup : ∀ p ∈ L, IsK P w h p.2 p.1
  led : w.params.followText "set-order" = true ∨ t.led = true
  room : L.length * 5 < t.mask * 3
variable {a : Addr} {L : KL} {es : Array (Int × Value)} {ep : Nat} {t : SetTable}
theorem KSet.size (R : KSet P w s.heap a L es ep t) : es.size = L.length := by
  have h := congrArg List.length R.rows
  rwa [Array.length_toList, List.length_map] at h
theorem tab_fits {n : Nat} {hs : List Int} (T : TabOk t hs) (hl : hs.length = n) (hr : n * 5 < t.mask * 3) : t.fits n = true := by
  have h1 := T.sz
  unfold SetTable.fits SetTable.fill
  rw [T.dm, Bool.and_eq_true, beq_iff_eq, decide_eq_true_eq]
  show t.place.size = n ∧ t.place.size + 0 ≤ t.mask
  omega
theorem KSet.fits (R : KSet P w s.heap a L es ep t) : t.fits es.size = true := by
  rw [R.size]
  exact tab_fits R.tab (List.length_map ..) R.room
theorem KSet.entry (R : KSet P w s.heap a L es ep t) {i : Nat} {p : Addr × List Str} (h : L[i]? = some p) : es[i]? = some (rowK P w p) := by
  rw [← Array.getElem?_toList, R.rows, List.getElem?_map, h]; rfl
theorem KSet.ix (R : KSet P w s.heap a L es ep t) {i j : Nat} (h : t.place.toList[i]? = some j) : ∃ p, L[i]? = some p := by
  have h1 : i < t.place.toList.length := (List.getElem?_eq_some_iff.mp h).1
  have h2 := R.tab.sz
  rw [List.length_map] at h2
  rw [Array.length_toList, h2] at h1
  exact ⟨_, List.getElem?_eq_getElem h1⟩
theorem nth_dummy (m : Nat) : ∀ (n : Nat) (p : SetTable.Probe), p.dummy = none → (nth m p n).dummy = none
  | 0, _, h => h
  | n + 1, p, h => nth_dummy m n (adv m p) (by unfold adv; split <;> exact h)
/-- the c-th state of the search for the hash h -/
abbrev pst (m : Nat) (h : Int) (c : Nat) : SetTable.Probe := nth m (runAt m (SetTable.bits h % (m + 1)) (SetTable.bits h)) c
theorem pst_add (m : Nat) (h : Int) (c q : Nat) : nth m (pst m h c) q = pst m h (c + q) := (nth_add m c _ q).symm
/-- the search for k, its way's first free slot being the K-th: found where k is in, else that slot -/
theorem search_key (R : KSet P w s.heap a L es ep t) {x : Addr} {k : List Str} (hx : IsK P w s.heap k x) (hu : A.units < cLine) {K : Nat} (hKf : K < 10 * SetTable.turns t.mask)
    (hK : way t.mask (kh P w k) K ∉ t.place.toList) (hKb : ∀ c, c < K → way t.mask (kh P w k) c ∈ t.place.toList) {Q : SetFound → Shared → Prop}
    (hin : k ∈ L.map (·.2) → Q (.there none) s) (hout : k ∉ L.map (·.2) → Q (.free (way t.mask (kh P w k) K) false) s) :
    ∀ (f c : Nat) (stand : Option SetTable.Probe), stand.getD (t.probeStart (kh P w k)) = pst t.mask (kh P w k) c → c ≤ K → K - c < f →
      (∀ (i : Nat) p, L[i]? = some p → p.2 = k → ∃ c', c ≤ c' ∧ c' < K ∧ t.place.toList[i]? = some (way t.mask (kh P w k) c')) →
      wpAny (model P w) A (setSearchFrom a (.ref x) (kh P w k) true f stand) Q E s
  | 0, c, stand, _, _, hf, _ => absurd hf (Nat.not_lt_zero _)
  | f + 1, c, stand, hst, hc, hf, later => by
    obtain ⟨o, ho, hex, hd⟩ := R.ob
    have odd : ¬ t.gaveWay = true := by
      unfold SetTable.gaveWay
      rw [mask_odd R.tab.mok]
      decide
    have wy : ∀ q, (nth t.mask (pst t.mask (kh P w k) c) q).j = way t.mask (kh P w k) (c + q) := fun q => congrArg SetTable.Probe.j (pst_add _ _ _ _)
    have hash : ∀ (i : Nat) p, L[i]? = some p → (es[i]?.map (·.1)).getD 0 = kh P w p.2 := fun i p hp => by rw [R.entry hp]; rfl
    -- where k sits is not behind us
    have ahead : ∀ q : Nat, (∀ k' i' : Nat, k' < q → t.place.toList[i']? = some (nth t.mask (pst t.mask (kh P w k) c) k').j → (es[i']?.map (·.1)).getD 0 ≠ kh P w k) → ∀ (i : Nat) p, L[i]? = some p → p.2 = k → ∀ c', c ≤ c' → t.place.toList[i]? = some (way t.mask (kh P w k) c') → c + q ≤ c' := fun q no i p hp hk c' h1 h3 => by
      rcases Nat.lt_or_ge c' (c + q) with z | z
      · exfalso
        refine no (c' - c) i (by omega) (by rw [wy, show c + (c' - c) = c' by omega]; exact h3) ?_
        rw [hash i p hp, hk]
      · exact z
    rw [setSearchFrom_succ]
    refine wpAny_bind (wpAny_setState_of ho hd R.fits ?_)
    dsimp only
    refine wp_if_neg odd ?_
    try refine wpAny_bind (wpAny_pure ?_)
    rcases go_spec t R.tab.ris R.tab.dm (fun i => (es[i]?.map (·.1)).getD 0) (kh P w k) (10 * SetTable.turns t.mask) (K - c) (pst t.mask (kh P w k) c) (nth_dummy _ c _ rfl) (by omega)
      (fun q hq => by rw [wy]; exact hKb (c + q) (by omega)) (by rw [wy, show c + (K - c) = K by omega]; exact hK) with ⟨q, i, hq, hi, hh, no, pr⟩ | ⟨no, pr⟩
    · rw [wy] at hi pr
      have pr' : t.probe (fun i => (es[i]?.map (·.1)).getD 0) (kh P w k) (stand.getD (t.probeStart (kh P w k))) = some (.candidate (way t.mask (kh P w k) (c + q)) i (pst t.mask (kh P w k) (c + (q + 1)))) := by
        rw [hst, ← pst_add]; exact pr
      rw [pr']
      dsimp only
      obtain ⟨p, hp⟩ := R.ix hi
      have hm : p ∈ L := List.mem_of_getElem? hp
      have hsl : t.slot (way t.mask (kh P w k) (c + q)) = .live i := slot_live R.tab.ris hi
      have rest : wpAny (model P w) A (searchRest a (.ref x) (kh P w k) true f es t (way t.mask (kh P w k) (c + q)) i (pst t.mask (kh P w k) (c + (q + 1)))) Q E s := by
        unfold searchRest
        rw [R.entry hp]
        show wpAny (model P w) A (do let equal ← holding [Value.ref p.1] (eqBool (Value.ref p.1) (.ref x)); _) Q E s
        refine wpAny_bind (wpAny_holding (wpAny_eqBool_tuple hu (R.tup p hm) hx ?_))
        refine wpAny_bind (wpAny_setState_of ho hd R.fits ?_)
        dsimp only
        by_cases hkk : p.2 = k
        · exact wp_if_pos (by simp [hkk]) (wpAny_pure (hin (List.mem_map.mpr ⟨p, hm, hkk⟩)))
        · refine wp_if_neg (by simp [hkk]) ?_
          try refine wpAny_bind (wpAny_pure ?_)
          rw [sameMem]
          dsimp only
          simp only [if_true, hsl, R.entry hp, rowK]
          refine wpAny_bind (wpAny_isSame_ref_self (wpAny_bind (wpAny_pure ?_)))
          simp only [if_true]
          refine wp_if_neg (by simp [hkk]) ?_
          refine search_key R hx hu hKf hK hKb hin hout f (c + (q + 1)) _ rfl (by omega) (by omega) fun i0 p0 h0 hk0 => ?_
          obtain ⟨c', a1, a2, a3⟩ := later i0 p0 h0 hk0
          refine ⟨c', ?_, a2, a3⟩
          have ge := ahead q no i0 p0 h0 hk0 c' a1 a3
          rcases Nat.lt_or_ge (c + q) c' with y | y
          · omega
          · exfalso
            obtain rfl : c' = c + q := Nat.le_antisymm y ge
            have s0 := slot_live R.tab.ris a3
            rw [hsl] at s0
            injection s0 with s0
            rw [← s0, hp] at h0
            exact hkk ((congrArg Prod.snd (Option.some.inj h0)).trans hk0)
      by_cases hl : t.led = true
      · refine wp_if_neg (by simp [hl]) ?_
        try refine wpAny_bind (wpAny_pure ?_)
        exact rest
      · refine wp_if_pos (by simp [hl]) ?_
        refine wpAny_bind (seen_key hx (fun y hy => ?_) ?_)
        · obtain ⟨e, he, ee⟩ := List.mem_map.mp hy
          have he1 : e ∈ es ∧ e.1 = kh P w k := by simpa using he
          have he2 : e ∈ es.toList := by simpa using he1.1
          rw [R.rows] at he2
          obtain ⟨p2, hp2, e2⟩ := List.mem_map.mp he2
          exact ⟨p2.2, p2.1, by rw [← ee, ← e2]; rfl, R.tup p2 hp2⟩
        · refine wp_if_neg (by decide) ?_
          try refine wpAny_bind (wpAny_pure ?_)
          exact rest
    · rw [wy, show c + (K - c) = K by omega] at pr
      have pr' : t.probe (fun i => (es[i]?.map (·.1)).getD 0) (kh P w k) (stand.getD (t.probeStart (kh P w k))) = some (.empty (way t.mask (kh P w k) K) none) := by rw [hst]; exact pr
      rw [pr']
      dsimp only
      refine wpAny_pure (hout fun hm => ?_)
      obtain ⟨p0, h0, hk0⟩ := List.mem_map.mp hm
      obtain ⟨i0, hi0, e0⟩ := List.getElem_of_mem h0
      have h00 : L[i0]? = some p0 := by rw [List.getElem?_eq_getElem hi0, e0]
      obtain ⟨c', a1, a2, a3⟩ := later i0 p0 h00 hk0
      have ge := ahead (K - c) no i0 p0 h00 hk0 c' a1 a3
      omega
/-- the search as adding asks for it -/
theorem search_add (R : KSet P w s.heap a L es ep t) {x : Addr} {k : List Str} (hx : IsK P w s.heap k x) (hu : A.units < cLine) {Q : SetFound → Shared → Prop} (hin : k ∈ L.map (·.2) → Q (.there none) s)
    (hout : ∀ K, k ∉ L.map (·.2) → way t.mask (kh P w k) K ∉ t.place.toList → (∀ c, c < K → way t.mask (kh P w k) c ∈ t.place.toList) → Q (.free (way t.mask (kh P w k) K) false) s) :
    wpAny (model P w) A (setSearch a (.ref x) (kh P w k) true) Q E s := by
  have hroom := R.room
  obtain ⟨K, hKf, hK, hKb⟩ := R.tab.first (by rw [List.length_map]; omega) (kh P w k)
  have hbig : K < 100000 := by
    have : 10 * SetTable.turns t.mask ≤ 1420 := by
      unfold SetTable.turns
      rcases R.tab.mok with e | e | e <;> omega
    omega
  unfold setSearch
  refine search_key R hx hu hKf hK hKb hin (fun hn => hout K hn hK hKb) 100000 0 none rfl (Nat.zero_le _) (by omega) fun i p hp hk => ?_
  have hi : (L.map fun p => kh P w p.2)[i]? = some (kh P w k) := by rw [List.getElem?_map, hp, ← hk]; rfl
  have hil : i < t.place.toList.length := by
    have h1 : i < L.length := (List.getElem?_eq_some_iff.mp hp).1
    have h2 := R.tab.sz
    rw [List.length_map] at h2
    rw [Array.length_toList]
    omega
  have hj := List.getElem?_eq_getElem hil
  obtain ⟨c, hc, e⟩ := R.tab.before hK hi hj
  exact ⟨c, Nat.zero_le _, hc, by rw [hj, e]⟩
end
end Vk

/-! ## VkSetAdd -/
set_option Elab.async false
set_option linter.all false
set_option maxRecDepth 100000
set_option maxHeartbeats 2000000
/-! Sets of tuples of texts: adding; the whole set. -/
namespace Vk
open PySem PySem.Spec PyProof.Rows PySem.W PySem.SeqAt L2
section
variable {P : Program} {w : World} {A : Around} {E : Value → Shared → Prop} {s : Shared} {a : Addr} {L : KL} {es : Array (Int × Value)} {ep : Nat} {t : SetTable}
theorem isK_but {h h' : Heap} {k : List Str} {b : Addr} {o : Obj} (hb : IsK P w h k b) (ho : h.get? a = some o) (hd : o.data = .set es ep t) (hs : Heap.SameBut a h h') : IsK P w h' k b := by
  refine isK_keep hb fun o' ho' => ?_
  have hne : b ≠ a := by
    rintro rfl
    obtain ⟨o2, items, n, ho2, _, hd2, _⟩ := hb
    rw [ho] at ho2
    cases ho2
    rw [hd] at hd2
    cases hd2
  exact (hs.2 b hne).trans ho'
theorem range_pick {α : Type} (L : List α) : (List.range L.length).filterMap (fun i => L[i]?) = L := by
  induction L with
  | nil => rfl
  | cons x L ih =>
    rw [List.length_cons, List.range_succ_eq_map, List.filterMap_cons_some (by rfl), List.filterMap_map]
    exact congrArg (x :: ·) ih
/-- the rows in another order -/
theorem rows_order {order : Array Nat} (hr : es.toList = L.map (rowK P w)) (hp : order.toList.Perm (List.range L.length)) : ∃ L2 : KL, (order.filterMap (es[·]?)).toList = L2.map (rowK P w) ∧ L2.Perm L ∧ (L2.map fun p => kh P w p.2) = order.toList.map fun i => (es.map (·.1)).getD i 0 := by
  have ent : ∀ i : Nat, es[i]? = (L[i]?).map (rowK P w) := fun i => by rw [← Array.getElem?_toList, hr, List.getElem?_map]
  refine ⟨order.toList.filterMap fun i => L[i]?, ?_, ?_, ?_⟩
  · rw [Array.toList_filterMap, List.map_filterMap]
    exact congrArg (fun f => List.filterMap f order.toList) (funext ent)
  · have := hp.filterMap fun i => L[i]?
    rwa [range_pick] at this
  · have hlt : ∀ i ∈ order.toList, i < L.length := fun i hi => List.mem_range.mp (hp.mem_iff.mp hi)
    revert hlt
    generalize order.toList = l
    intro hlt
    induction l with
    | nil => rfl
    | cons i l ih =>
      have hi := hlt i List.mem_cons_self
      rw [List.filterMap_cons_some (List.getElem?_eq_getElem hi), List.map_cons, List.map_cons, ih fun j hj => hlt j (List.mem_cons_of_mem _ hj)]
      congr 1
      have e : (es.map (·.1))[i]? = some (kh P w (L[i]).2) := by rw [Array.getElem?_map, ent, List.getElem?_eq_getElem hi]; rfl
      rw [Array.getD_eq_getD_getElem?, e]; rfl
/-- the table laid anew -/
theorem relay_key {o : Obj} (ho : s.heap.get? a = some o) (hex : o.ExactSet) (hd : o.data = .set es ep t) (hrows : es.toList = L.map (rowK P w)) (T : TabOk t (L.map fun p => kh P w p.2)) (hfl : L.length ≤ t.mask)
    (nd : (L.map (·.2)).Nodup) (tup : ∀ p ∈ L, IsK P w s.heap p.2 p.1) (ld : w.params.followText "set-order" = true ∨ t.led = true) {wanted M : Nat} (hw : SetTable.sizeAbove wanted - 1 = M) (hM : MaskOk M) (hw2 : SetTable.sizeAbove wanted ≤ 128) (hn : L.length * 5 < M * 3) {Q : Unit → Shared → Prop}
    (hQ : ∀ h' L' es' ep' t', Heap.SameBut a s.heap h' → KSet P w h' a L' es' ep' t' → L'.Perm L → Q () { s with heap := h' }) : wpAny (model P w) A (setRelay a wanted) Q E s := by
  have hsl : es.size = L.length := by
    have h := congrArg List.length hrows
    rwa [Array.length_toList, List.length_map] at h
  have hfits : t.fits es.size = true := by
    have h1 := T.sz
    rw [List.length_map] at h1
    unfold SetTable.fits SetTable.fill
    rw [T.dm, Bool.and_eq_true, beq_iff_eq, decide_eq_true_eq]
    show t.place.size = es.size ∧ t.place.size + 0 ≤ t.mask
    omega
  obtain ⟨t', order, e, hp, T', em, el, _, _⟩ := relaid_ok t (hs := es.map (·.1)) (wanted := wanted) hw hM (by rw [Array.size_map, hsl]; omega)
  rw [Array.size_map, hsl] at hp
  obtain ⟨L2, r1, r2, r3⟩ := rows_order (P := P) (w := w) hrows hp
  rw [← r3] at T'
  have hs2 : (order.filterMap (es[·]?)).size = es.size := by
    have h := congrArg List.length r1
    rw [Array.length_toList, List.length_map, r2.length_eq] at h
    rw [h, hsl]
  rw [setRelay_eq]
  refine wpAny_bind (wpAny_setState_of ho hd hfits ?_)
  dsimp only
  refine wp_if_neg (by rw [sizeLine_eq]; omega) ?_
  try refine wpAny_bind (wpAny_pure ?_)
  rw [e]
  dsimp only
  refine wpAny_bind ?_
  refine wp_if_neg (by rw [hs2]; simp) ?_
  try refine wpAny_bind (wpAny_pure ?_)
  refine wpAny_pure ?_
  dsimp only
  refine wpAny_storeSet_of ho hd ?_ (by
    rw [hs2, hsl, sizeLine_eq]
    rcases hM with e | e | e <;> omega)
  have sb : Heap.SameBut a s.heap (s.heap.update a (Obj.putSet (order.filterMap (es[·]?)) t')) := Heap.SameBut.update ..
  refine hQ _ L2 (order.filterMap (es[·]?)) (ep + 1) t' sb ?_ r2
  refine ⟨⟨_, store_at ho hd, ⟨hex.1, hex.2.1, hex.2.2⟩, rfl⟩, r1, T', (r2.map (·.2)).nodup_iff.mpr nd, fun p hpm => isK_but (tup p (r2.mem_iff.mp hpm)) ho hd sb, by rw [el]; exact ld, ?_⟩
  rw [r2.length_eq, em]
  exact hn
/-- one tuple goes in -/
theorem add_key (R : KSet P w s.heap a L es ep t) {x : Addr} {k : List Str} (hx : IsK P w s.heap k x) (hu : A.units < cLine) (hfew : k ∉ L.map (·.2) → L.length + 1 ≤ 76) {Q : Bool → Shared → Prop}
    (hQ : ∀ b h' L' es' ep' t', Heap.SameBut a s.heap h' → KSet P w h' a L' es' ep' t' → (k ∈ L.map (·.2) → L' = L) → (k ∉ L.map (·.2) → L'.Perm ((x, k) :: L)) → Q b { s with heap := h' }) :
    wpAny (model P w) A (setAddHashed a (.ref x) (kh P w k)) Q E s := by
  obtain ⟨o, ho, hex, hd⟩ := R.ob
  have hsl := R.size
  have hroom := R.room
  unfold setAddHashed
  refine wpAny_holding ?_
  rw [show (100000 : Nat) = 99999 + 1 from rfl, setAddHashedIn_succ]
  refine wpAny_bind (wpAny_setState_of ho hd R.fits ?_)
  dsimp only
  refine wp_if_neg (by simp [byScan, Value.scannable]) ?_
  try refine wpAny_bind (wpAny_pure ?_)
  refine wpAny_bind (search_add R hx hu (fun hm => ?_) fun K hm hK hb => ?_)
  · exact wpAny_pure (hQ false s.heap L es ep t (Heap.SameBut.refl a s.heap) R (fun _ => rfl) fun z => absurd hm z)
  · dsimp only
    refine wpAny_bind (wpAny_setState_of ho hd R.fits ?_)
    dsimp only
    obtain ⟨q1, q2, q3, q4, q5, _, _, _, q9⟩ := R.tab.put hK hb
    have hl1 := hfew hm
    generalize hpt : t.put (way t.mask (kh P w k) K) = pt at q1 q3 q4 q5 q9 ⊢
    obtain ⟨t1, p⟩ := pt
    dsimp only at q1 q3 q4 q5 q9 ⊢
    subst q1
    generalize SetTable.below t.place (way t.mask (kh P w k) K) = p at q2 q3 ⊢
    have hin : (SetTable.insertAt es p (kh P w k, Value.ref x)).toList = (L.take p ++ (x, k) :: L.drop p).map (rowK P w) := by
      rw [SetTable.toList_insertAt, R.rows, List.map_append, List.map_cons, List.map_take, List.map_drop]; rfl
    have pm := put_perm L p (x, k)
    have hlen : (L.take p ++ (x, k) :: L.drop p).length = L.length + 1 := pm.length_eq
    have q3' : TabOk t1 ((L.take p ++ (x, k) :: L.drop p).map fun p => kh P w p.2) := by
      rw [List.map_append, List.map_cons, List.map_take, List.map_drop]; exact q3
    have nd1 : ((L.take p ++ (x, k) :: L.drop p).map (·.2)).Nodup := by
      refine (pm.map (·.2)).nodup_iff.mpr ?_
      rw [List.map_cons]
      exact List.nodup_cons.mpr ⟨hm, R.nd⟩
    have q9' : t1.fill = L.length + 1 := by rw [q9, List.length_map]
    clear q3 q9
    generalize L.take p ++ (x, k) :: L.drop p = L1 at pm hlen q3' nd1 hin
    have hes : (SetTable.insertAt es p (kh P w k, Value.ref x)).size = L.length + 1 := by
      have h := congrArg List.length hin
      rwa [Array.length_toList, List.length_map, hlen] at h
    generalize SetTable.insertAt es p (kh P w k, Value.ref x) = es1 at hin hes ⊢
    -- whatever the table is told of hashes by value
    have main : ∀ t2 : SetTable, TabOk t2 (L1.map fun p => kh P w p.2) → t2.mask = t.mask → t2.led = t.led → t2.fill = L.length + 1 →
        wpAny (model P w) A (do
          storeSet a es1 t2
          if (!false && t2.tooFull) = true then do
            setRelay a (SetTable.grown (es.size + 1))
            pure true
          else pure true) Q E s := by
      intro t2 T2 m2 l2 f2
      refine wpAny_bind (wpAny_storeSet_of ho hd ?_ (by rw [hes, sizeLine_eq]; omega))
      have sb : Heap.SameBut a s.heap (s.heap.update a (Obj.putSet es1 t2)) := Heap.SameBut.update ..
      have ho1 := store_at (es' := es1) (t' := t2) ho hd
      generalize s.heap.update a (Obj.putSet es1 t2) = h1 at sb ho1 ⊢
      have tup1 : ∀ p ∈ L1, IsK P w h1 p.2 p.1 := fun p hp => by
        rcases List.mem_cons.mp (pm.mem_iff.mp hp) with e | hp
        · rw [e]; exact isK_but hx ho hd sb
        · exact isK_but (R.tup p hp) ho hd sb
      have ld1 : w.params.followText "set-order" = true ∨ t2.led = true := by rw [l2]; exact R.led
      by_cases hf : t2.tooFull = true
      · refine wp_if_pos (by simp [hf]) ?_
        refine wpAny_bind ?_
        have hfull : (L.length + 1) * 5 ≥ t2.mask * 3 := by
          have h := hf
          unfold SetTable.tooFull at h
          rw [decide_eq_true_eq, f2] at h
          exact h
        rw [hsl]
        have which : (t.mask = 7 ∧ L.length = 4) ∨ (t.mask = 31 ∧ L.length = 18) := by
          rcases R.tab.mok with e | e | e
          · left; rw [m2, e] at hfull; rw [e] at hroom; exact ⟨e, by omega⟩
          · right; rw [m2, e] at hfull; rw [e] at hroom; exact ⟨e, by omega⟩
          · exfalso; rw [m2, e] at hfull; omega
        have go : ∀ M, SetTable.sizeAbove (SetTable.grown (L.length + 1)) - 1 = M → MaskOk M → SetTable.sizeAbove (SetTable.grown (L.length + 1)) ≤ 128 → (L.length + 1) * 5 < M * 3 →
            wpAny (model P w) A (setRelay a (SetTable.grown (L.length + 1))) (fun _ s' => wpAny (model P w) A (pure true) Q E s') E { s with heap := h1 } := fun M a1 a2 a3 a4 =>
          relay_key (s := { s with heap := h1 }) ho1 ⟨hex.1, hex.2.1, hex.2.2⟩ rfl hin T2 (by rw [hlen, m2]; rcases which with ⟨e, e2⟩ | ⟨e, e2⟩ <;> omega) nd1 tup1 ld1 a1 a2 a3 (by rw [hlen]; exact a4)
            fun h2 L2 es2 ep2 t2 sb2 R2 pm2 => wpAny_pure (hQ true h2 L2 es2 ep2 t2 (sb.trans sb2) R2 (fun z => absurd z hm) fun _ => pm2.trans pm)
        rcases which with ⟨_, e2⟩ | ⟨_, e2⟩
        · exact go 31 (by rw [e2, size_20]) (.inr (.inl rfl)) (by rw [e2, size_20]; decide) (by omega)
        · exact go 127 (by rw [e2, size_76]) (.inr (.inr rfl)) (by rw [e2, size_76]; decide) (by omega)
      · refine wp_if_neg (by simp [hf]) ?_
        refine wpAny_pure (hQ true h1 L1 es1 (ep + 1) t2 sb ⟨⟨_, ho1, ⟨hex.1, hex.2.1, hex.2.2⟩, rfl⟩, hin, T2, nd1, tup1, ld1, ?_⟩ (fun z => absurd z hm) fun _ => pm)
        have h := hf
        unfold SetTable.tooFull at h
        rw [decide_eq_true_eq, f2] at h
        rw [hlen]
        omega
    have plainOff : TabOk { t1 with plain := false } (L1.map fun p => kh P w p.2) := ⟨q3'.ris, q3'.dm, q3'.sz, q3'.mok, q3'.bd, q3'.reach⟩
    by_cases hp : t1.plain = true
    · first
        | (refine wpAny_bind ?_; refine wp_if_pos hp ?_; refine hash_key hx fun c => ?_)
        | (refine wp_if_pos hp (wpAny_bind (hash_key hx fun c => ?_)))
      cases c with
      | true => exact main t1 q3' q4 q5 q9'
      | false => exact main { t1 with plain := false } plainOff q4 q5 q9'
    · first
        | (refine wpAny_bind ?_; refine wp_if_neg hp ?_; refine wpAny_pure ?_)
        | (refine wp_if_neg hp (wpAny_bind (wpAny_pure ?_)))
      exact main t1 q3' q4 q5 q9'
end
end Vk

/-! ## VkPlain -/
set_option Elab.async false
set_option linter.all false
set_option maxRecDepth 100000
set_option maxHeartbeats 1000000
/-! Plain: texts, tuples of texts, families; their orders; sorted sets. -/
namespace Vk
open PySem PySem.Spec PyProof.Rows PySem.W PySem.SeqAt
/-! ### data -/
abbrev KS : Type := List Str
abbrev FM : Type := List (List Str)
def dS (k : KS) : PyData := .tuple (k.map .str)
def lS (k : KS) : PyData := .list (k.map .str)
def dF (F : FM) : PyData := .tuple (F.map dS)
def lF (F : FM) : PyData := .list (F.map dS)
theorem mapStr_inj : ∀ {a b : KS}, a.map PyData.str = b.map PyData.str → a = b
  | [], [], _ => rfl
  | x :: a, y :: b, h => by
    rw [List.map_cons, List.map_cons] at h
    injection h with h1 h2
    injection h1 with h1
    rw [h1, mapStr_inj h2]
  | [], _ :: _, h => by cases h
  | _ :: _, [], h => by cases h
theorem dS_inj {a b : KS} (h : dS a = dS b) : a = b := by
  unfold dS at h
  injection h with h
  exact mapStr_inj h

/-! ### sorted lists -/
section
variable {α : Type}
def ins (le : α → α → Bool) (x : α) : List α → List α
  | [] => [x]
  | y :: l => if le x y = true then x :: y :: l else y :: ins le x l
def isort (le : α → α → Bool) : List α → List α
  | [] => []
  | x :: l => ins le x (isort le l)
def nub [DecidableEq α] : List α → List α
  | [] => []
  | x :: l => if x ∈ l then nub l else x :: nub l
theorem ins_perm (le : α → α → Bool) (x : α) : ∀ l : List α, (ins le x l).Perm (x :: l)
  | [] => .refl _
  | y :: l => by
    unfold ins
    split
    · exact .refl _
    · exact ((ins_perm le x l).cons y).trans (.swap x y l)
theorem isort_perm (le : α → α → Bool) : ∀ l : List α, (isort le l).Perm l
  | [] => .refl _
  | x :: l => (ins_perm le x _).trans ((isort_perm le l).cons x)
theorem ins_sorted {le : α → α → Bool} (h : TotalLe le) (x : α) : ∀ {l : List α}, l.Pairwise (fun a b => le a b = true) → (ins le x l).Pairwise (fun a b => le a b = true)
  | [], _ => List.pairwise_singleton _ _
  | y :: l, p => by
    obtain ⟨p1, p2⟩ := List.pairwise_cons.mp p
    unfold ins
    by_cases c : le x y = true
    · rw [if_pos c]
      refine List.pairwise_cons.mpr ⟨fun z hz => ?_, p⟩
      rcases List.mem_cons.mp hz with rfl | hz
      · exact c
      · exact h.trans _ _ _ c (p1 z hz)
    · rw [if_neg c]
      refine List.pairwise_cons.mpr ⟨fun z hz => ?_, ins_sorted h x p2⟩
      rcases List.mem_cons.mp ((ins_perm le x l).mem_iff.mp hz) with rfl | hz
      · exact (h.total z y).resolve_left c
      · exact p1 z hz
theorem isort_sorted {le : α → α → Bool} (h : TotalLe le) : ∀ l : List α, (isort le l).Pairwise (fun a b => le a b = true)
  | [] => List.Pairwise.nil
  | x :: l => ins_sorted h x (isort_sorted h l)
theorem mem_isort {le : α → α → Bool} {l : List α} {x : α} : x ∈ isort le l ↔ x ∈ l := (isort_perm le l).mem_iff
variable [DecidableEq α]
theorem mem_nub {x : α} : ∀ {l : List α}, x ∈ nub l ↔ x ∈ l
  | [] => by simp [nub]
  | y :: l => by
    unfold nub
    by_cases c : y ∈ l
    · rw [if_pos c, mem_nub, List.mem_cons]
      exact ⟨.inr, fun z => z.elim (fun e => e ▸ c) id⟩
    · rw [if_neg c, List.mem_cons, mem_nub, List.mem_cons]
theorem nub_nodup : ∀ l : List α, (nub l).Nodup
  | [] => List.nodup_nil
  | y :: l => by
    unfold nub
    by_cases c : y ∈ l
    · rw [if_pos c]; exact nub_nodup l
    · rw [if_neg c]; exact List.nodup_cons.mpr ⟨fun z => c (mem_nub.mp z), nub_nodup l⟩
theorem nub_self : ∀ {l : List α}, l.Nodup → nub l = l
  | [], _ => rfl
  | y :: l, h => by
    obtain ⟨h1, h2⟩ := List.nodup_cons.mp h
    unfold nub
    rw [if_neg h1, nub_self h2]
/-- the sorted list of the different ones -/
def canon (le : α → α → Bool) (l : List α) : List α := isort le (nub l)
theorem mem_canon {le : α → α → Bool} {l : List α} {x : α} : x ∈ canon le l ↔ x ∈ l := mem_isort.trans mem_nub
theorem canon_nodup (le : α → α → Bool) (l : List α) : (canon le l).Nodup := (isort_perm le _).nodup_iff.mpr (nub_nodup l)
theorem canon_length (le : α → α → Bool) (l : List α) : (canon le l).length ≤ l.length := by
  rw [show (canon le l).length = (nub l).length from (isort_perm le _).length_eq]
  induction l with
  | nil => exact Nat.le_refl _
  | cons x l ih => unfold nub; split <;> simp <;> omega
/-- sorted, and of no two equal ones -/
def Sd (le : α → α → Bool) (l : List α) : Prop := l.Nodup ∧ l.Pairwise (fun a b => le a b = true)
theorem canon_sd {le : α → α → Bool} (h : TotalLe le) (l : List α) : Sd le (canon le l) := ⟨canon_nodup le l, isort_sorted h _⟩
theorem sd_ext {le : α → α → Bool} (as : ∀ a b, le a b = true → le b a = true → a = b) {l m : List α} (hl : Sd le l) (hm : Sd le m) (h : ∀ x, x ∈ l ↔ x ∈ m) : l = m :=
  List.Perm.eq_of_pairwise (fun a b _ _ => as a b) hl.2 hm.2 ((List.perm_ext_iff_of_nodup hl.1 hm.1).mpr h)
theorem canon_eq {le : α → α → Bool} (t : TotalLe le) (as : ∀ a b, le a b = true → le b a = true → a = b) {l m : List α} (hl : Sd le l) (h : ∀ x, x ∈ l ↔ x ∈ m) : canon le m = l :=
  sd_ext as (canon_sd t m) hl fun x => mem_canon.trans (h x).symm
end

/-! ### the order of texts -/
def strLt (x y : Str) : Bool := decide (x.cps.toList < y.cps.toList)
def strLe (x y : Str) : Bool := decide (x.cps.toList ≤ y.cps.toList)
theorem strLe_data (x y : Str) : dataLe false id (.str x) (.str y) = strLe x y := congrFun (congrFun (dataLe_str (k := (id : Str → Str))) x) y
theorem strLe_total : TotalLe strLe := by
  have := sortLe_total (listOrd itemOrd) false fun x : Str => keyToks (.str x)
  have e : (sortLe (listOrd itemOrd) false fun x : Str => keyToks (.str x)) = strLe := funext fun x => funext fun y => strLe_data x y
  rwa [e] at this
theorem str_ext {x y : Str} (h : x.cps.toList = y.cps.toList) : x = y := by
  cases x
  cases y
  congr 1
  exact Array.toList_inj.mp h
theorem strLe_anti (a b : Str) (h1 : strLe a b = true) (h2 : strLe b a = true) : a = b :=
  str_ext (List.le_antisymm (of_decide_eq_true h1) (of_decide_eq_true h2))

/-! ### the order of tuples of texts -/
def tupLt : KS → KS → Bool
  | _, [] => false
  | [], _ :: _ => true
  | x :: a, y :: b => if x = y then tupLt a b else strLt x y
def tupLe (a b : KS) : Bool := !tupLt b a
theorem tupLt_data : ∀ a b : KS, PyProof.Rows.lexLt itemOrd (keyToksAll (a.map .str)) (keyToksAll (b.map .str)) = tupLt a b
  | [], [] => rfl
  | [], y :: b => by
    rw [List.map_cons, toks_all_cons]
    rfl
  | x :: a, [] => by
    rw [List.map_cons, toks_all_cons]
    rfl
  | x :: a, y :: b => by
    rw [List.map_cons, List.map_cons, dataLt_cons (by rfl), tupLt_data a b]
    show _ = if x = y then tupLt a b else strLt x y
    have e : PyData.eqv (.str x) (.str y) = true ↔ x = y := by simp [PyData.eqv]
    by_cases c : x = y
    · rw [if_pos c, if_pos (e.2 c)]
    · rw [if_neg c, if_neg (fun z => c (e.1 z)), dataLt_str]; rfl
theorem tupLe_data (a b : KS) : dataLe false id (dS a) (dS b) = tupLe a b := by
  rw [dataLe_eq]
  show (!dataLt (dS b) (dS a)) = tupLe a b
  unfold dS
  rw [dataLt_tuple, tupLt_data]; rfl
theorem tupLe_total : TotalLe tupLe := by
  have := sortLe_total (listOrd itemOrd) false fun x : KS => keyToks (dS x)
  have e : (sortLe (listOrd itemOrd) false fun x : KS => keyToks (dS x)) = tupLe := funext fun x => funext fun y => tupLe_data x y
  rwa [e] at this
theorem tupLe_anti : ∀ a b : KS, tupLe a b = true → tupLe b a = true → a = b
  | [], [], _, _ => rfl
  | [], y :: b, _, h => by simp [tupLe, tupLt] at h
  | x :: a, [], h, _ => by simp [tupLe, tupLt] at h
  | x :: a, y :: b, h1, h2 => by
    by_cases c : x = y
    · subst c
      have h1' : tupLe a b = true := by simpa [tupLe, tupLt] using h1
      have h2' : tupLe b a = true := by simpa [tupLe, tupLt] using h2
      rw [tupLe_anti a b h1' h2']
    · have h1' : strLt y x = false := by simpa [tupLe, tupLt, Ne.symm c] using h1
      have h2' : strLt x y = false := by simpa [tupLe, tupLt, c] using h2
      refine absurd (strLe_anti x y ?_ ?_) c
      · unfold strLe; unfold strLt at h1'
        exact decide_eq_true (List.not_lt.mp (of_decide_eq_false h1'))
      · unfold strLe; unfold strLt at h2'
        exact decide_eq_true (List.not_lt.mp (of_decide_eq_false h2'))

/-! ### sorted, over data -/
theorem sortD_enc {α : Type} {le : α → α → Bool} {enc : α → PyData} (t : TotalLe le) (as : ∀ a b, le a b = true → le b a = true → a = b) (he : ∀ a b, dataLe false id (enc a) (enc b) = le a b) {l m : List α} (p : m.Perm l) : sortD (m.map enc) = (isort le l).map enc := by
  have e1 : sortD (m.map enc) = (m.mergeSort le).map enc := (sort_maps (r := le) (s := dataLe false id) enc fun a _ b _ => (he a b).symm).symm
  rw [e1]
  congr 1
  exact List.Perm.eq_of_pairwise (fun a b _ _ => as a b) (sort_pairwise t m) (isort_sorted t l) ((List.mergeSort_perm _ _).trans (p.trans (isort_perm le l).symm))
def sset (l : KS) : KS := canon strLe l
def tset (l : FM) : FM := canon tupLe l
theorem sset_mem {l : KS} {x : Str} : x ∈ sset l ↔ x ∈ l := mem_canon
theorem tset_mem {l : FM} {x : KS} : x ∈ tset l ↔ x ∈ l := mem_canon
theorem sortD_sset {l m : KS} (p : m.Perm (nub l)) : sortD (m.map .str) = (sset l).map .str := sortD_enc strLe_total strLe_anti strLe_data p
theorem sortD_tset {l m : FM} (p : m.Perm (nub l)) : sortD (m.map dS) = (tset l).map dS := sortD_enc tupLe_total tupLe_anti tupLe_data p
theorem sortD_strs (l : KS) : sortD (l.map .str) = (isort strLe l).map .str := sortD_enc strLe_total strLe_anti strLe_data (.refl _)
theorem sortD_tups (l : FM) : sortD (l.map dS) = (isort tupLe l).map dS := sortD_enc tupLe_total tupLe_anti tupLe_data (.refl _)

/-! ### shapes -/
theorem alike_strs : ∀ a b : KS, alikeAll (a.map .str) (b.map .str) = true
  | [], _ => by rw [List.map_nil, alikeAll]
  | _ :: _, [] => by rw [List.map_nil, List.map_cons, alikeAll]
  | x :: a, y :: b => by rw [List.map_cons, List.map_cons, alikeAll, alike_strs a b]; rfl
theorem alike_dS (a b : KS) : alike (dS a) (dS b) = true := by
  unfold dS
  rw [alike]
  exact alike_strs a b
theorem allAlike_strs (l : KS) : AllAlike (l.map .str) := AllAlike.of fun b b' => rfl
theorem allAlike_tups (l : FM) : AllAlike (l.map dS) := AllAlike.of alike_dS
theorem srt_strs (l : KS) : Srt (l.map .str) := .inl (Sortable.others fun b => ⟨(fun z => nomatch z), (fun xs z => nomatch z)⟩)
theorem srt_tups (l : FM) : Srt (l.map dS) := .inr fun d hd => by
  obtain ⟨k, _, rfl⟩ := List.mem_map.mp hd
  exact ⟨_, rfl⟩
theorem depthAll_strs : ∀ l : KS, PyData.depthAll (l.map .str) = 0
  | [] => rfl
  | x :: l => by
    rw [List.map_cons, PyData.depthAll, depthAll_strs l]
    rfl
theorem depth_dS (k : KS) : (dS k).depth ≤ 1 := by
  unfold dS
  rw [PyData.depth, depthAll_strs]
  exact Nat.le_refl _
theorem noDictAll_strs : ∀ l : KS, noDict.noDictAll (l.map .str) = true
  | [] => rfl
  | x :: l => by
    rw [List.map_cons]
    show (noDict (.str x) && noDict.noDictAll (l.map .str)) = true
    rw [noDictAll_strs l]; rfl
theorem noDict_dS (k : KS) : noDict (dS k) = true := noDictAll_strs k
end Vk

/-! ## VkSset -/
set_option Elab.async false
set_option linter.all false
set_option maxRecDepth 100000
set_option maxHeartbeats 2000000
/-! sorted(set(xs)), xs of texts or of tuples of texts. -/
namespace Vk
open PySem PySem.Spec PyProof.Rows PySem.W PySem.SeqAt L2 LamX StX
section
variable {P : Program} {w : World} {A : Around} {s : Shared}
/-- what has gone in of the first i -/
def KI (P : Program) (w : World) (a : Addr) (ks : KL) (i : Nat) (h : Heap) : Prop := ∃ L es ep t, KSet P w h a L es ep t ∧ (∀ p ∈ L, p ∈ ks.take i) ∧ ∀ p ∈ ks.take i, p.2 ∈ L.map (·.2)
theorem kI_keep {a : Addr} {ks : KL} {h0 : Heap} (hk : ∀ p ∈ ks, IsK P w h0 p.2 p.1) : SetKeep a h0 (KI P w a ks) := fun i h h' ⟨L, es, ep, t, R, r1, r2⟩ k1 k2 => by
  obtain ⟨o, ho, q⟩ := R.ob
  exact ⟨L, es, ep, t, ⟨⟨o, k1 o ho, q⟩, R.rows, R.tab, R.nd, fun p hp => isK_keep (hk p (List.mem_of_mem_take (r1 p hp))) (k2 _), R.led, R.room⟩, r1, r2⟩
theorem kI_step {a : Addr} {items : Array Value} {ks : KL} {h0 : Heap} (hu : A.units < cLine) (hi : items.toList = ks.map fun p => Value.ref p.1) (hk : ∀ p ∈ ks, IsK P w h0 p.2 p.1) {U : FM} (hU : U.length ≤ 76) (hs : ∀ p ∈ ks, p.2 ∈ U) : SetStep P w A a h0 items (KI P w a ks) := by
  intro i v s Q E hv ⟨L, es, ep, t, R, r1, r2⟩ kp hQ
  have hv' : items.toList[i]? = some v := by rw [Array.getElem?_toList]; exact hv
  rw [hi, List.getElem?_map] at hv'
  cases hp : ks[i]? with
  | none => rw [hp] at hv'; cases hv'
  | some p =>
    rw [hp] at hv'
    have ev : v = Value.ref p.1 := (Option.some.inj hv').symm
    subst ev
    have hm : p ∈ ks := List.mem_of_getElem? hp
    have hx : IsK P w s.heap p.2 p.1 := isK_keep (hk p hm) (kp _)
    unfold setAdd
    refine wpAny_holding (wpAny_bind (wpAny_pyHash_tuple hu hx ?_))
    refine add_key (s := { s with toks := s.toks + (p.2.length + 1) }) R hx hu (fun hn => ?_) fun b h' L' es' ep' t' sb R' c1 c2 => ?_
    · have nd : (p.2 :: L.map (·.2)).Nodup := List.nodup_cons.mpr ⟨hn, R.nd⟩
      have le := List.Nodup.length_le_of_subset (l₂ := U) nd fun z hz => by
        rcases List.mem_cons.mp hz with e | hz
        · rw [e]; exact hs p hm
        · obtain ⟨q, hq, e⟩ := List.mem_map.mp hz
          rw [← e]; exact hs q (List.mem_of_mem_take (r1 q hq))
      rw [List.length_cons, List.length_map] at le
      omega
    · refine hQ b h' _ (Nat.le_add_right _ _) sb ⟨L', es', ep', t', R', ?_, ?_⟩
      · intro q hq
        rw [mem_take_succ hp]
        by_cases hin : p.2 ∈ L.map (·.2)
        · rw [c1 hin] at hq; exact .inl (r1 q hq)
        · rcases List.mem_cons.mp ((c2 hin).mem_iff.mp hq) with e | z
          · exact .inr e
          · exact .inl (r1 q z)
      · intro q hq
        rw [mem_take_succ hp] at hq
        by_cases hin : p.2 ∈ L.map (·.2)
        · rw [c1 hin]
          rcases hq with z | e
          · exact r2 q z
          · rw [e]; exact hin
        · rw [((c2 hin).map (·.2)).mem_iff, List.map_cons]
          rcases hq with z | e
          · exact List.mem_cons_of_mem _ (r2 q z)
          · rw [e]; exact List.mem_cons_self
theorem kI_zero {a : Addr} {ks : KL} {h : Heap} (hs : h.get? a = some (newSet w)) : KI P w a ks 0 h := by
  refine ⟨[], #[], 0, .fresh 0 0 (!w.params.followText "set-order"), ⟨⟨_, hs, ⟨rfl, rfl, rfl⟩, rfl⟩, rfl, ⟨List.Pairwise.nil, rfl, rfl, .inl rfl, fun x hx => (by cases hx), fun i h j hi => (by simp at hi)⟩, List.nodup_nil, fun p hp => (by cases hp), ?_, ?_⟩, fun p hp => (by cases hp), fun p hp => (by simp at hp)⟩
  · show _ ∨ (!w.params.followText "set-order") = true
    cases w.params.followText "set-order"
    · exact .inr rfl
    · exact .inl rfl
  · show 0 * 5 < 7 * 3
    decide
end

section
variable {X : Cx} {T : TabL}
/-- tuples of texts as values -/
theorem tups_at {K : PySem.W.Frag} {H : Hp} : ∀ {vs : List V} {F : FM}, IsDs K H vs (F.map dS) → ∃ L : KL, vs = L.map (fun p => V.ref p.1) ∧ L.map (·.2) = F ∧ ∀ p ∈ L, H p.1 = some (.tup (p.2.map V.str))
  | _, [], h => by cases h; exact ⟨[], rfl, rfl, fun p hp => by cases hp⟩
  | _, k :: F, h => by
    have h' : IsDs K H _ (dS k :: F.map dS) := h
    cases h' with
    | cons h1 h2 =>
      obtain ⟨L, e1, e2, e3⟩ := tups_at h2
      have h1' : IsD K H _ (.tuple (k.map .str)) := h1
      cases h1' with
      | @tup a us _ ha t =>
        rw [t.strs] at ha
        refine ⟨(a, k) :: L, by rw [e1]; rfl, by rw [List.map_cons, e2], fun p hp => ?_⟩
        rcases List.mem_cons.mp hp with e | hp
        · rw [e]; exact ha
        · exact e3 p hp
theorem items_text {P : Program} {w : World} : ∀ {k : KS} {us : List Value}, Vals (k.map V.str) us → ItemsAre (strKind P w) k us
  | [], _, .nil => .nil
  | n :: k, _, .cons r t => by
    obtain ⟨tk, rfl⟩ := r
    exact .cons (strKind_is P w n tk) (items_text t)
theorem isK_of {pins : List (Addr × Obj)} {σ : L2.St} {H : Hp} {s : Shared} {b : Addr} {k : KS} (I : Inv X pins σ H s) (h : H b = some (.tup (k.map V.str))) : IsK X.prog X.w s.heap k b := by
  obtain ⟨its, r, ⟨o, ho, hc, n, hd⟩, _⟩ := I.tuple (SqT.of (K := X.K) h)
  exact ⟨o, its.toArray, n, ho, hc, hd, by simpa using items_text r⟩
theorem refs_at2 : ∀ {L : KL} {us : List Value}, Vals (L.map fun p => V.ref p.1) us → us = L.map fun p => Value.ref p.1
  | [], _, .nil => rfl
  | p :: L, _, .cons r t => by
    cases r
    rw [refs_at2 t]; rfl
def unK : PyData → KS
  | .tuple xs => xs.map fun x => match x with | .str y => y | _ => Str.empty
  | _ => []
theorem unK_dS : ∀ k : KS, unK (dS k) = k
  | [] => rfl
  | x :: k => congrArg (x :: ·) (unK_dS k)
def rSset (R : RE) : RE := fun ρ d => ∃ e xs, R ρ e ∧ seqOf e = some xs ∧ ((∃ l : KS, xs = l.map .str ∧ l.length ≤ 4000 ∧ d = .list ((sset l).map .str)) ∨
  ∃ F U : FM, xs = F.map dS ∧ F.length ≤ 100000 ∧ U.length ≤ 76 ∧ (∀ k ∈ F, k ∈ U) ∧ d = lF (tset F))
/-- behind sorted: the new list is tracked -/
theorem sset_end {K : PySem.W.Frag} {pins : List (Addr × Obj)} {σ : L2.St} {H : Hp} {M : List Addr} {s s' : Shared} {Q : VK} {p : Addr} {out : Array Value} {c : Nat} {zs : List (V × PyData)} {d : List PyData} (eK : K = X.K) (I : Inv X pins σ H s) (mk : MOk M H)
    (k : ∀ b o, s.heap.get? b = some o → s'.heap.get? b = some o) (g : s'.gens = s.gens) (o : s'.os = s.os) (hp : s.heap.objs.size ≤ p) (hg : s'.heap.get? p = some (seqObj "list" out c)) (hL : zs.length ≤ sizeLine)
    (e : EachIs RVP out.toList zs) (hz : ∀ q ∈ zs, IsD K (hid H M) q.1 q.2) (ed : zs.map Prod.snd = d) (q : ∀ v H', Gr T H H' → IsD K (hid H' M) v (.list d) → Q v H') : EP X pins σ Q (.ref p) s' := by
  subst eK
  subst ed
  have hn : H p = none := I.hok.fresh hp
  have hv := each_vals e
  have J : Inv X pins σ (upd H p (.lst (zs.map Prod.fst))) { s with heap := s'.heap, gens := s'.gens, drawn := s'.drawn, toks := s'.toks } :=
    I.call (ch := []) (Un.laid k hp hn) (I.hok.laid k hp ⟨by rw [List.length_map]; exact hL, out.toList, c, hv, hg⟩) (by rw [g]; exact I.bare) (fun _ z => nomatch z)
  have es : s' = { s with heap := s'.heap, gens := s'.gens, drawn := s'.drawn, toks := s'.toks } := by
    cases s'
    cases s
    cases o
    rfl
  rw [es]
  exact ⟨.ref p, _, J, rfl, q _ _ (Gr.upd hn) (new_lst (msk_fresh mk hn) hn (isDs_of hz))⟩
theorem de_sset {a : Expr} {R : RE} {p p2 q pos : Pos} (hc : X.calm = true) (hu : X.A.units + 64 < cLine) (hg : Gl X "sorted") (hm : X.mg "sorted" = none) (hg2 : Gl X "set") (hm2 : X.mg "set" = none) (ha : DE X T a R)
    (na : starEach [a] X.env = (false, eval a X.env) :: starEach [] X.env := by rfl) : DE X T (.Call (.Name "sorted" p) [.Call (.Name "set" p2) [a] [] q] [] pos) (rSset R) := by
  refine ⟨fun pins s σ H Q I h => ?_⟩
  obtain ⟨ρ, d, M, S, ⟨e, xs, r, es, cs⟩, k⟩ := h
  refine Call_ (ld_blt I hg hm boot_sorted ?_)
  refine PyProof.Rows.callWith_builtin1 (PyProof.Rows.args_cons ?_ rfl) rfl rfl
  refine Call_ (ld_blt I hg2 hm2 PyProof.Rows.boot_set ?_)
  refine PyProof.Rows.callWith_type1 (PyProof.Rows.args_cons (thn (ha.run pins s σ H (fun v H1 => Gr T H H1 ∧ IsD X.K (hid H1 M) v e) I ⟨ρ, e, M, S, r, fun v H1 g i => ⟨g, i⟩⟩) fun v s1 ⟨x, H1, I1, r1, g1, i1⟩ => PyProof.Rows.args_nil ?_) na) na rfl
  obtain ⟨l, vs, rfl, hq, t⟩ := seq_parts i1 es
  cases r1
  have S1 := S.gr g1
  obtain ⟨its, rv, hl⟩ : ∃ its : List Value, Vals vs its ∧ (s1.heap.IsList l its.toArray ∨ s1.heap.IsTuple l its.toArray) := by
    rcases hq with hq | hq
    · obtain ⟨its, rv, pl, _⟩ := I1.tuple (SqT.of (K := X.K) (hid_some hq).2)
      exact ⟨its, rv, .inr pl⟩
    · obtain ⟨its, rv, pl, _⟩ := I1.list (SqL.of (K := X.K) (hid_some hq).2)
      exact ⟨its, rv, .inl pl.isList⟩
  have hh := I1.ok.hd hc
  rcases cs with ⟨tl, e1, h4, e2⟩ | ⟨F, U, e1, h5, hU, hs, e2⟩
  · subst e1; subst e2
    have hst : StrsAre its tl := by
      rw [t.strs] at rv
      exact strsAre_of rv
    have hsz : its.toArray.size = tl.length := by rw [List.size_toArray]; exact StrsAre.len_eq hst
    refine call_setI hh hl (TxI X.prog X.w s1.heap.objs.size tl) txI_keep (txI_step (by simpa using hst) (by unfold scanBound; omega)) (fun h hs _ => txI_zero hs) fun h' tk iv hk => PyProof.Rows.args_nil ?_
    obtain ⟨L, ⟨D, ho, F, rs, ld, nd⟩, hm', hll⟩ := iv
    have I2 : Inv X pins σ H1 { s1 with heap := h', toks := tk } := I1.kept fun b o e => hk b o e
    obtain ⟨ks, pk, hks⟩ := tx_values F nd
    rw [hsz, List.take_length] at hm'
    have ez : EachIs (fun u p => RVP u p ∧ ∃ as, Reads h' u p.2 as) (D.1.toList.map (·.2)) (ks.map fun k => (V.str k, PyData.str k)) := by
      have key : ∀ {us : List Value} {ks : KS}, StrsAre us ks → EachIs (fun u (p : V × PyData) => RVP u p ∧ ∃ as, Reads h' u p.2 as) us (ks.map fun k => (V.str k, PyData.str k)) := by
        intro us ks hh
        induction hh with
        | nil => exact .nil
        | cons n tk _ ih => exact .cons ⟨⟨tk, rfl⟩, [], Reads.str n tk⟩ ih
      exact key hks
    have hsnd : (ks.map fun k => (V.str k, PyData.str k)).map Prod.snd = ks.map PyData.str := by rw [List.map_map]; rfl
    have hDs : D.1.size < scanBound := by rw [F.sz]; unfold scanBound; rw [hsz] at hll; omega
    refine sorted_setG (s := { s1 with heap := h', toks := tk }) (es := D.1) (ep := D.2.1) (t := D.2.2) hh ⟨_, ho, rfl, rfl⟩ F.fit hDs rs ld ez (by rw [hsnd]; exact allAlike_strs ks) (by rw [hsnd]; exact srt_strs ks) (fun d hd => ?_) fun s' p out c zs' kk g o hp hg pz eo => ?_
    · rw [hsnd] at hd
      obtain ⟨k, _, rfl⟩ := List.mem_map.mp hd
      show X.A.units + 2 + 0 < cLine
      omega
    · have hmem : ∀ q ∈ zs'.mergeSort (dataLe false Prod.snd), ∃ k, q = (V.str k, PyData.str k) := fun q hq => by
        obtain ⟨k, _, e⟩ := List.mem_map.mp (pz.mem_iff.mp ((List.mergeSort_perm _ _).mem_iff.mp hq))
        exact ⟨k, e.symm⟩
      refine sset_end (K := X.K) (T := T) (M := M) rfl I2 S1.msk kk g o hp hg ?_ eo (fun q hq => ?_) ?_ fun v H' gg i => k v H' (g1.trans gg) i
      · rw [(List.mergeSort_perm _ _).length_eq, pz.length_eq, List.length_map, pk.length_eq, sizeLine_eq]
        rw [hsz] at hll
        omega
      · obtain ⟨k, rfl⟩ := hmem q hq
        exact .str k
      · rw [sort_maps (r := dataLe false Prod.snd) (s := dataLe false id) Prod.snd (fun a _ b _ => rfl)]
        have pzz : (zs'.map Prod.snd).Perm (ks.map PyData.str) := by rw [← hsnd]; exact pz.map _
        obtain ⟨ms, em, pm⟩ : ∃ ms : KS, zs'.map Prod.snd = ms.map PyData.str ∧ ms.Perm ks := by
          have : zs'.map Prod.snd = (zs'.map fun q => match q.1 with | .str k => k | _ => Str.empty).map PyData.str := by
            rw [List.map_map]
            refine List.map_congr_left fun q hq => ?_
            obtain ⟨k, _, e⟩ := List.mem_map.mp (pz.mem_iff.mp hq)
            rw [← e]; rfl
          refine ⟨_, this, ?_⟩
          have := pz.map fun q => match q.1 with | .str k => k | _ => Str.empty
          rw [List.map_map] at this
          have fid : ((fun q : V × PyData => match q.1 with | .str k => k | _ => Str.empty) ∘ fun k => (V.str k, PyData.str k)) = (id : Str → Str) := rfl
          rw [fid, List.map_id] at this
          exact this
        rw [em]
        refine sortD_sset (pm.trans (pk.trans ((List.perm_ext_iff_of_nodup nd (nub_nodup tl)).mpr fun x => ?_)))
        rw [hm' x, mem_nub]
  · subst e1; subst e2
    obtain ⟨ks, ev, eF, hks⟩ := tups_at t
    subst ev
    have hks1 : ∀ p ∈ ks, H1 p.1 = some (.tup (p.2.map V.str)) := fun p hp => (hid_some (hks p hp)).2
    have hit := refs_at2 rv
    have hsz : its.toArray.size = ks.length := by rw [List.size_toArray, hit, List.length_map]
    have hF : F.length = ks.length := by rw [← eF, List.length_map]
    have hk0 : ∀ p ∈ ks, IsK X.prog X.w s1.heap p.2 p.1 := fun p hp => isK_of I1 (hks1 p hp)
    refine call_setI hh hl (KI X.prog X.w s1.heap.objs.size ks) (kI_keep hk0) (kI_step (by show X.A.units + 1 + 1 + 1 < cLine; omega) (by simpa using hit) hk0 hU fun p hp => hs _ (by rw [← eF]; exact List.mem_map.mpr ⟨p, hp, rfl⟩)) (fun h hs _ => kI_zero hs) fun h' tk iv hk => PyProof.Rows.args_nil ?_
    obtain ⟨L, es', ep, tt, R, r1, r2⟩ := iv
    rw [hsz, List.take_length] at r1 r2
    have I2 : Inv X pins σ H1 { s1 with heap := h', toks := tk } := I1.kept fun b o e => hk b o e
    obtain ⟨o, ho, hex, hd⟩ := R.ob
    have hDL : ∀ p ∈ L, IsD X.K (hid H1 M) (.ref p.1) (dS p.2) := fun p hp => .tup (hks p (r1 p hp)) (IsDs.of_strs p.2)
    have hvals : es'.toList.map (·.2) = L.map fun p => Value.ref p.1 := by rw [R.rows, List.map_map]; rfl
    have ez : EachIs (fun u p => RVP u p ∧ ∃ as, Reads h' u p.2 as) (es'.toList.map (·.2)) (L.map fun p => (V.ref p.1, dS p.2)) := by
      rw [hvals]
      have key : ∀ L' : KL, (∀ p ∈ L', p ∈ L) → EachIs (fun u (p : V × PyData) => RVP u p ∧ ∃ as, Reads h' u p.2 as) (L'.map fun p => Value.ref p.1) (L'.map fun p => (V.ref p.1, dS p.2)) := by
        intro L'
        induction L' with
        | nil => intro _; exact .nil
        | cons p L' ih =>
          intro hh
          refine .cons ⟨rfl, ?_⟩ (ih fun q hq => hh q (List.mem_cons_of_mem _ hq))
          exact Dp.reads I2 (dS p.2) (.ref p.1) (.ref p.1) ((hDL p (hh p List.mem_cons_self)).all.dp (noDict_dS _)) rfl
      exact key L fun _ h => h
    have hsnd : (L.map fun p => (V.ref p.1, dS p.2)).map Prod.snd = (L.map (·.2)).map dS := by rw [List.map_map, List.map_map]; rfl
    have hLU : L.length ≤ 76 := by
      have le := List.Nodup.length_le_of_subset (l₂ := U) R.nd fun z hz => by
        obtain ⟨q, hq, e⟩ := List.mem_map.mp hz
        rw [← e]; exact hs _ (by rw [← eF]; exact List.mem_map.mpr ⟨q, r1 q hq, rfl⟩)
      rw [List.length_map] at le
      omega
    have hDs : es'.size < scanBound := by rw [KSet.size (s := { s1 with heap := h', toks := tk }) R]; unfold scanBound; omega
    refine sorted_setG (s := { s1 with heap := h', toks := tk }) (es := es') (ep := ep) (t := tt) hh ⟨o, ho, hex.1, hd⟩ (KSet.fits (s := { s1 with heap := h', toks := tk }) R) hDs R.tab.ris R.led ez (by rw [hsnd]; exact allAlike_tups _) (by rw [hsnd]; exact srt_tups _) (fun d hd => ?_) fun s' p out c zs' kk g oo hp hg pz eo => ?_
    · rw [hsnd] at hd
      obtain ⟨k, _, rfl⟩ := List.mem_map.mp hd
      have := depth_dS k
      show X.A.units + 2 + (dS k).depth < cLine
      omega
    · have hmem : ∀ q ∈ zs', ∃ p ∈ L, q = (V.ref p.1, dS p.2) := fun q hq => by
        obtain ⟨k, hk, e⟩ := List.mem_map.mp (pz.mem_iff.mp hq)
        exact ⟨k, hk, e.symm⟩
      refine sset_end (K := X.K) (T := T) (M := M) rfl I2 S1.msk kk g oo hp hg ?_ eo (fun q hq => ?_) ?_ fun v H' gg i => k v H' (g1.trans gg) i
      · rw [(List.mergeSort_perm _ _).length_eq, pz.length_eq, List.length_map, sizeLine_eq]
        omega
      · obtain ⟨k, hk, rfl⟩ := hmem q ((List.mergeSort_perm _ _).mem_iff.mp hq)
        exact hDL k hk
      · rw [sort_maps (r := dataLe false Prod.snd) (s := dataLe false id) Prod.snd (fun a _ b _ => rfl)]
        have pzz : (zs'.map Prod.snd).Perm ((L.map (·.2)).map dS) := by rw [← hsnd]; exact pz.map _
        obtain ⟨ms, em, pm⟩ : ∃ ms : FM, zs'.map Prod.snd = ms.map dS ∧ ms.Perm (L.map (·.2)) := by
          have back : ∀ zz : List (V × PyData), (∀ q ∈ zz, ∃ p ∈ L, q = (V.ref p.1, dS p.2)) → ∃ ms : FM, zz.map Prod.snd = ms.map dS := by
            intro zz
            induction zz with
            | nil => intro _; exact ⟨[], rfl⟩
            | cons q zz ih =>
              intro hh
              obtain ⟨ms, e⟩ := ih fun r hr => hh r (List.mem_cons_of_mem _ hr)
              obtain ⟨p, _, eq⟩ := hh q List.mem_cons_self
              exact ⟨p.2 :: ms, by rw [List.map_cons, List.map_cons, e, eq]⟩
          obtain ⟨ms, e⟩ := back zs' hmem
          refine ⟨ms, e, ?_⟩
          rw [e] at pzz
          have := pzz.map unK
          rw [List.map_map, List.map_map] at this
          have f : ∀ l : FM, l.map (unK ∘ dS) = l := fun l => by
            conv => rhs; rw [← List.map_id l]
            exact List.map_congr_left fun k _ => unK_dS k
          rwa [f, f] at this
        rw [em]
        refine sortD_tset (pm.trans ((List.perm_ext_iff_of_nodup R.nd (nub_nodup F)).mpr fun x => ?_))
        rw [mem_nub, ← eF]
        constructor
        · intro hx
          obtain ⟨q, hq, e⟩ := List.mem_map.mp hx
          exact List.mem_map.mpr ⟨q, r1 q hq, e⟩
        · intro hx
          obtain ⟨q, hq, e⟩ := List.mem_map.mp hx
          rw [← e]
          exact r2 q hq
end
end Vk

/-! ## VkOwn -/
set_option Elab.async false
set_option linter.all false
set_option maxRecDepth 100000
set_option maxHeartbeats 1000000
/-! Own lists: append, extend, x = x + e; several names at once. -/
namespace Vk
open PySem PySem.Spec PyProof.Rows L2 LamX StX
section
variable {X : Cx} {T : TabL}
/-! ### append, extend -/
theorem typ_append : typeOf (.builtin "list.append") = pure (.type "method_descriptor") := by show builtinType _ = _; rw [builtinType_eq_fast]; kernel_rfl
theorem typ_extend : typeOf (.builtin "list.extend") = pure (.type "method_descriptor") := by show builtinType _ = _; rw [builtinType_eq_fast]; kernel_rfl
def wApp (i : Nat) (R : RE) : W2 := fun Nx _ ε => ∃ xs d, ε[i]? = some (some (.o xs)) ∧ R (mk ε) d ∧ xs.length < 1000000 ∧ Nx (ε.set i (some (.o (xs ++ [d]))))
theorem ds_append {i : Nat} {o e : Expr} {R : RE} {apos cpos pos : Pos} (ho : PE X o (tVar i)) (he : DE X T e R) (hbase : attributeBase o "append" X.env (eval o X.env) = eval o X.env := by rfl)
    (hfew : ((backTo cpos (starEach [e] X.env)).all (fun x => !x.1) && (backToKw cpos (keywordEach [] X.env)).all (fun x => x.1.isSome)
      && decide (([e] : List Expr).length + ([] : List Keyword).length + (if ([] : List Keyword).isEmpty then 0 else 1) < 30)) = true := by rfl)
    (hline : (apos.endLine == cpos.line) = true := by rfl) (hs : starEach [e] X.env = (false, eval e X.env) :: starEach [] X.env := by rfl) (hplain : (backTo cpos (starEach [] X.env)).any (·.1) = false := by rfl)
    (hsw : swapsWith (.Call (.Attribute o "append" apos) [e] [] cpos) none pos.line X.env = pure false := by rfl) :
    DS X T (.Expr (.Call (.Attribute o "append" apos) [e] [] cpos) pos) (wApp i R) :=
  ps_weak (ps_expr (pe_bm F.plainAttrs_list F.slot_list_append typ_append mt_append ho (pa_cons he pa_nil hs) hbase hfew hline hs hplain) hsw) fun D σ H ⟨M0, M, ε, Nx, Rt, S, ⟨xs, d, e1, r, hl, q⟩, k1, k2⟩ => by
    obtain ⟨a, vs, h1, h2, h3, h4, h5⟩ := S.own i xs e1
    refine ⟨_, h1, .inl ⟨rfl, vs, SqL.of h4⟩, tD1 S.sat r fun v H1 g j => ?_⟩
    have h4' : H1 a = some (.lst vs) := g.1 _ _ h4 fun ps z => by cases z
    have c := (S.gr g).chg e1 h1 h4' ((h5.gr g).snoc j)
    refine ⟨a, vs, v, rfl, rfl, h4', ?_, k1 σ _ M _ ((Fr.gr g).trans c.2) c.1 q⟩
    rw [h5.length, sizeLine_eq]; omega
open AutoSeq1 MeetsSeq MeetsSeq2 MeetsSeq3 SeqRoads2 in
theorem extend_tupAt (l : Addr) (items : Array Value) (n : Nat) (b : Addr) (items2 : Array Value) (n2 : Nat) (dd : Option Addr) (sl : Array (Option Value)) (hlong : ¬ (!items.isEmpty && Builtin.List.listTooLong (items.size + items2.size)) = true) (h1 : items.size ≤ sizeLine) (h2 : items.size + items2.size ≤ sizeLine + 1) :
    Meets (Builtin.«list.extend» ⟨[.ref l, .ref b], []⟩) (fun _ R s => s.heap.get? l = some { cls := .type "list", dict := none, data := .seq items n, slots := #[] } ∧ s.heap.get? b = some { cls := .type "tuple", dict := dd, data := .seq items2 n2, slots := sl } ∧
      R (.ok (.ret Value.none)) { s with heap := s.heap.update l (Obj.mapSeq fun x => x ++ items2), toks := s.toks }) :=
  .of_wp fun prog w A R s h => by
    obtain ⟨hp, g, d, tk, os⟩ := s
    obtain ⟨hl, hb, h⟩ := h
    have g4 := AutoSeq1.sub_tuple_list
    have hz : (items ++ items2).size ≤ sizeLine + 1 := by rw [Array.size_append]; exact h2
    wp_walk using (wpAny_updateSeq hl rfl (hz := h1) (_hz' := hz)), wpAny_loadPart' hl, wpAny_loadPart' hb
    exact ⟨_, rfl, h⟩
theorem mt_extendS : MtM X "list.extend" fun x vs H Q => ∃ l b xs zs, x = .ref l ∧ vs = [.ref b] ∧ H l = some (.lst xs) ∧ ((H b = some (.lst zs) ∧ b ≠ l) ∨ H b = some (.tup zs)) ∧ xs.length + zs.length ≤ sizeLine ∧ Q .non (upd H l (.lst (xs ++ zs))) := by
  intro pins s σ H x vs v us Q I rx rv h
  obtain ⟨l, b, xs, zs, rfl, rfl, hH, hB, hz, q⟩ := h
  rcases hB with ⟨hB, _⟩ | hB
  · exact mt_extend pins s σ H _ _ v us Q I rx rv ⟨l, b, xs, zs, rfl, rfl, hH, hB, hz, q⟩
  · cases rx
    obtain ⟨u, rfl, ru⟩ := rv.one
    cases ru
    obtain ⟨z, its, n, r, hl, e⟩ := I.lstM hH
    obtain ⟨its2, r2, ⟨o2, ho2, hc2, n2, hd2⟩, z2⟩ := I.tuple (SqT.of (K := X.K) hB)
    have hl2 := r2.length
    cases o2
    simp only at hc2 hd2
    subst hc2 hd2
    have hsz : its.toArray.size + its2.toArray.size ≤ sizeLine := by rw [List.size_toArray, List.size_toArray]; omega
    have hlong : ¬ (!its.toArray.isEmpty && Builtin.List.listTooLong (its.toArray.size + its2.toArray.size)) = true := by
      rw [notLongL hsz, Bool.and_false]
      exact Bool.false_ne_true
    refine call_meets F.slot_list_extend ⟨_, e, rfl⟩ F.entry_list_extend (F.args_list_extend_2 _ _)
      (extend_tupAt l its.toArray n b its2.toArray n2 _ _ hlong (by rw [List.size_toArray]; omega) (by omega)) ⟨e, ho2, ?_⟩
    refine ⟨.non, _, I.lset (its' := its ++ its2) hH e (by simp) (r.append r2) ?_, rfl, q⟩
    rw [List.length_append]
    omega
def wExt (i : Nat) (R : RE) : W2 := fun Nx _ ε => ∃ xs d ys, ε[i]? = some (some (.o xs)) ∧ R (mk ε) d ∧ seqOf d = some ys ∧ xs.length + ys.length ≤ 1000000 ∧ Nx (ε.set i (some (.o (xs ++ ys))))
theorem ds_extend {i : Nat} {o e : Expr} {R : RE} {apos cpos pos : Pos} (ho : PE X o (tVar i)) (he : DE X T e R) (hbase : attributeBase o "extend" X.env (eval o X.env) = eval o X.env := by rfl)
    (hfew : ((backTo cpos (starEach [e] X.env)).all (fun x => !x.1) && (backToKw cpos (keywordEach [] X.env)).all (fun x => x.1.isSome)
      && decide (([e] : List Expr).length + ([] : List Keyword).length + (if ([] : List Keyword).isEmpty then 0 else 1) < 30)) = true := by rfl)
    (hline : (apos.endLine == cpos.line) = true := by rfl) (hs : starEach [e] X.env = (false, eval e X.env) :: starEach [] X.env := by rfl) (hplain : (backTo cpos (starEach [] X.env)).any (·.1) = false := by rfl)
    (hsw : swapsWith (.Call (.Attribute o "extend" apos) [e] [] cpos) none pos.line X.env = pure false := by rfl) :
    DS X T (.Expr (.Call (.Attribute o "extend" apos) [e] [] cpos) pos) (wExt i R) :=
  ps_weak (ps_expr (pe_bm F.plainAttrs_list F.slot_list_extend typ_extend mt_extendS ho (pa_cons he pa_nil hs) hbase hfew hline hs hplain) hsw) fun D σ H ⟨M0, M, ε, Nx, Rt, S, ⟨xs, d, ys, e1, r, es, hl, q⟩, k1, k2⟩ => by
    obtain ⟨a, vs, h1, h2, h3, h4, h5⟩ := S.own i xs e1
    refine ⟨_, h1, .inl ⟨rfl, vs, SqL.of h4⟩, tD1 S.sat r fun v H1 g j => ?_⟩
    have h4' : H1 a = some (.lst vs) := g.1 _ _ h4 fun ps z => by cases z
    obtain ⟨b, us, rfl, hb, t⟩ := seq_parts j es
    have c := (S.gr g).chg e1 h1 h4' ((h5.gr g).append t)
    refine ⟨a, b, vs, us, rfl, rfl, h4', ?_, ?_, k1 σ _ M _ ((Fr.gr g).trans c.2) c.1 q⟩
    · rcases hb with hb | hb
      · exact .inr (hid_some hb).2
      · exact .inl ⟨(hid_some hb).2, fun z => (hid_some hb).1 (z ▸ h2)⟩
    · rw [h5.length, t.length, sizeLine_eq]; omega
/-- x = x + e -/
def wCat (i : Nat) (R : RE) : W2 := fun Nx _ ε => ∃ xs ys, ε[i]? = some (some (.o xs)) ∧ R (mk ε) (.list ys) ∧ xs.length + ys.length ≤ 1000000 ∧ Nx (ε.set i (some (.o (xs ++ ys))))
theorem ds_catG {st : Stmt} {i : Nat} {R : RE} (h : PS X st (tAsg (tOp rCat (tVar i) (tD X.K T R)) (gName i))) : DS X T st (wCat i R) := ps_weak h fun D σ H ⟨M0, M, ε, Nx, Rt, S, ⟨xs, ys, e1, r, hl, q⟩, k1, k2⟩ => by
  obtain ⟨a, vs, h1, h2, h3, h4, h5⟩ := S.own i xs e1
  refine ⟨_, h1, tD1 S.sat r fun v H1 g j => ?_⟩
  have h4' : H1 a = some (.lst vs) := g.1 _ _ h4 fun ps z => by cases z
  cases j with
  | @lst b us _ hb t =>
    refine ⟨a, b, vs, us, rfl, rfl, h4', (hid_some hb).2, by rw [h5.length, t.length, sizeLine_eq]; omega, fun p hp => ?_⟩
    have gg : Gr T H1 (upd H1 p (.lst (vs ++ us))) := Gr.upd hp
    have c := (S.gr g).setO i (p := p) (vs := vs ++ us) (xs := xs ++ ys) gg (fun o e => by rw [hp] at e; cases e) upd_same (((h5.gr g).append t).le (Le.new hp gg))
    exact k1 _ _ _ _ ((Fr.gr g).trans c.2) c.1 q
theorem ps_catI {i : Nat} {x : Str} {o e : Expr} {R : RE} {pos' bpos pos : Pos} (hN : X.N.Nodup) (hi : X.N[i]? = some x) (hx : Loc X.env.scope x) (ho : PE X o (tVar i)) (he : DE X T e R) (hs : swapsWith (.BinOp o .Add e bpos) (some (.Name x pos')) pos.line X.env = pure false := by rfl)
    (hf : X.fn x = true ∨ X.env.scope.names.lookup x = some .local := by first | exact .inl rfl | exact .inr rfl | assumption) : DS X T (.Assign [.Name x pos'] (.BinOp o .Add e bpos) pos) (wCat i R) := ds_catG (ps_set hN hi hx (pe_op op_cat ho he) hs hf)

/-! ### several at once: data or new own lists -/
abbrev RCs : Type := DEnv → List Cell → Prop
inductive Cls (K : PySem.W.Frag) (H : Hp) (MM : List Addr) : List Addr → List V → List Cell → Prop
  | nil : Cls K H MM [] [] []
  | d {v : V} {x : PyData} {N : List Addr} {vs : List V} {cs : List Cell} : IsD K (hid H MM) v x → Cls K H MM N vs cs → Cls K H MM N (v :: vs) (.d x :: cs)
  | o {a : Addr} {ws : List V} {xs : List PyData} {N : List Addr} {vs : List V} {cs : List Cell} : H a = some (.lst ws) → IsDs K (hid H MM) ws xs → a ∉ N → Cls K H MM N vs cs → Cls K H MM (a :: N) (.ref a :: vs) (.o xs :: cs)
def tDC (K : PySem.W.Frag) (T : TabL) (R : RCs) : TA := fun σ H Q => ∃ ρ cs M, Sat K T M H σ ρ ∧ R ρ cs ∧ ∀ vs H' N MM, Gr T H H' → Le H M H' MM → MOk MM H' → (∀ a, a ∈ MM ↔ a ∈ N ∨ a ∈ M) → (∀ a ∈ N, WF H a) → Cls K H' MM N vs cs → Q vs H'
def DC (X : Cx) (T : TabL) (es : List Expr) (R : RCs) : Prop := PA X es (tDC X.K T R)
def rcNil : RCs := fun _ cs => cs = []
def rcD (R : RE) (A : RCs) : RCs := fun ρ cs => ∃ d es, R ρ d ∧ A ρ es ∧ cs = .d d :: es
def rcO (R : RA) (A : RCs) : RCs := fun ρ cs => ∃ ds es, R ρ ds ∧ A ρ es ∧ cs = .o ds :: es
theorem dc_nil : DC X T [] rcNil := pa_weak pa_nil fun σ H Q ⟨ρ, cs, M, S, r, k⟩ => by
  have r' : cs = [] := r
  subst r'
  exact k [] H [] M (Gr.refl T H) (Le.refl H M) S.msk (fun a => by simp) (fun a z => by cases z) .nil
theorem dc_d {e : Expr} {es : List Expr} {R : RE} {A : RCs} (h : DE X T e R) (t : DC X T es A) (hs : starEach (e :: es) X.env = (false, eval e X.env) :: starEach es X.env := by rfl) : DC X T (e :: es) (rcD R A) :=
  pa_weak (pa_cons h t hs) fun σ H Q ⟨ρ, cs, M, S, ⟨d, es, r1, r2, e⟩, k⟩ => by
    subst e
    exact tD1 S r1 fun v H1 g1 i1 => ⟨ρ, es, M, S.gr g1, r2, fun vs H2 N MM g2 l2 mk mm wf c => k _ H2 N MM (g1.trans g2) (g1.le.trans l2) mk mm (fun a ha => (wf a ha).back g1) (.d (i1.le l2) c)⟩
theorem hid_congr {H : Hp} {M M' : List Addr} (h : ∀ a, a ∈ M ↔ a ∈ M') : hid H M = hid H M' := by
  funext a
  unfold hid
  by_cases e : a ∈ M
  · rw [if_pos e, if_pos ((h a).1 e)]
  · rw [if_neg e, if_neg (fun z => e ((h a).2 z))]
theorem dc_o {e : Expr} {es : List Expr} {R : RA} {A : RCs} (h : DF X T e R) (t : DC X T es A) (hs : starEach (e :: es) X.env = (false, eval e X.env) :: starEach es X.env := by rfl) : DC X T (e :: es) (rcO R A) :=
  pa_weak (pa_cons h t hs) fun σ H Q ⟨ρ, cs, M, S, ⟨ds, es, r1, r2, e⟩, k⟩ => by
    subst e
    refine ⟨ρ, ds, M, S, r1, fun p H1 ws g1 wp hp t1 => ?_⟩
    have hpM : p ∉ M := wp.msk S.msk
    have le1 : Le H M H1 (p :: M) := fun b o q n => by
      obtain ⟨q1, q2⟩ := hid_some q
      refine hid_of ?_ (g1.1 _ _ q2 n)
      simp only [List.mem_cons, not_or]
      exact ⟨fun e => by subst e; obtain ⟨ps, z⟩ := wp _ q2; exact n ps z, q1⟩
    have mk1 : MOk (p :: M) H1 := fun a ha => by
      rcases List.mem_cons.mp ha with e | ha
      · rw [e]; exact ⟨_, hp, nt_lst⟩
      · exact MOk.gr S.msk g1 a ha
    refine ⟨ρ, es, p :: M, S.le (g1.2 S.tabs) mk1 le1, r2, fun vs H2 N MM g2 l2 mk mm wf c => ?_⟩
    have hp2 : H2 p = some (.lst ws) := g2.1 _ _ hp fun ps z => by cases z
    have hpN : p ∉ N := fun z => by
      obtain ⟨ps, e⟩ := wf p z _ hp
      cases e
    refine k _ H2 (p :: N) MM (g1.trans g2) (le1.trans l2) mk (fun a => ?_) (fun a ha => ?_) (.o hp2 (t1.le l2) hpN c)
    · rw [mm a, List.mem_cons, List.mem_cons]
      constructor
      · rintro (z | z | z)
        · exact .inl (.inr z)
        · exact .inl (.inl z)
        · exact .inr z
      · rintro ((z | z) | z)
        · exact .inr (.inl z)
        · exact .inl z
        · exact .inr (.inr z)
    · rcases List.mem_cons.mp ha with e | ha
      · rw [e]; exact wp
      · exact (wf a ha).back g1
def setV : L2.St → List Nat → List V → L2.St
  | σ, i :: is, v :: vs => setV (σ.set i (some v)) is vs
  | σ, _, _ => σ
def setCell : Ev → List Nat → List Cell → Ev
  | ε, i :: is, c :: cs => setCell (ε.set i (some c)) is cs
  | ε, _, _ => ε
/-- an own list that the heap has already gets a slot -/
theorem St2.setA {K : PySem.W.Frag} {M0 M : List Addr} {H : Hp} {σ : L2.St} {ε : Ev} (S : St2 K T M0 M H σ ε) (i : Nat) {a : Addr} {vs : List V} {xs : List PyData} (h1 : a ∈ M) (h2 : a ∉ M0) (h3 : H a = some (.lst vs)) (h4 : IsDs K (hid H M) vs xs)
    (h5 : ∀ (j : Nat) ys, ε[j]? = some (some (.o ys)) → σ[j]? ≠ some (some (.ref a))) : St2 K T M0 M H (σ.set i (some (.ref a))) (ε.set i (some (.o xs))) where
  tabs := S.tabs
  msk := S.msk
  sub := S.sub
  len := by rw [List.length_set, List.length_set, S.len]
  dat := fun j e q => by
    rcases set_some q with ⟨rfl, hl, q⟩ | ⟨hj, q⟩
    · cases q
    · rw [List.getElem?_set_ne hj]; exact S.dat j e q
  own := fun j e q => by
    rcases set_some q with ⟨rfl, hl, q⟩ | ⟨hj, q⟩
    · cases q
      exact ⟨a, vs, by rw [List.getElem?_set_self (by rw [S.len]; exact hl)], h1, h2, h3, h4⟩
    · rw [List.getElem?_set_ne hj]; exact S.own j e q
  dis := fun j l xs' ys n q1 q2 => by
    rcases set_some q1 with ⟨rfl, hl, q1⟩ | ⟨hj, q1⟩
    · rcases set_some q2 with ⟨rfl, hl2, q2⟩ | ⟨hj2, q2⟩
      · exact absurd rfl n
      · rw [List.getElem?_set_self (by rw [S.len]; exact hl), List.getElem?_set_ne hj2]
        exact fun z => h5 l _ q2 z.symm
    · rcases set_some q2 with ⟨rfl, hl2, q2⟩ | ⟨hj2, q2⟩
      · rw [List.getElem?_set_self (by rw [S.len]; exact hl2), List.getElem?_set_ne hj]
        exact h5 j _ q1
      · rw [List.getElem?_set_ne hj, List.getElem?_set_ne hj2]; exact S.dis j l xs' ys n q1 q2
theorem St2.setCs {K : PySem.W.Frag} {M0 MM : List Addr} {H : Hp} : ∀ {N : List Addr} {vs : List V} {cs : List Cell}, Cls K H MM N vs cs → ∀ (is : List Nat) (σ : L2.St) (ε : Ev), St2 K T M0 MM H σ ε →
    (∀ a ∈ N, a ∈ MM ∧ a ∉ M0 ∧ ∀ (j : Nat) ys, ε[j]? = some (some (.o ys)) → σ[j]? ≠ some (some (.ref a))) → St2 K T M0 MM H (setV σ is vs) (setCell ε is cs)
  | _, _, _, .nil, is, σ, ε, S, h => by cases is <;> exact S
  | _, _, _, .d i c, [], σ, ε, S, h => S
  | _, _, _, .o .., [], σ, ε, S, h => S
  | _, _, _, .d iv c, i :: is, σ, ε, S, h => St2.setCs c is _ _ (S.set i iv) fun a ha => by
    obtain ⟨h1, h2, h3⟩ := h a ha
    refine ⟨h1, h2, fun j ys q => ?_⟩
    rcases set_some q with ⟨rfl, hl, q⟩ | ⟨hj, q⟩
    · cases q
    · rw [List.getElem?_set_ne hj]; exact h3 j ys q
  | _, _, _, .o (a := a) q1 q2 q3 c, i :: is, σ, ε, S, h => by
    obtain ⟨h1, h2, h3⟩ := h a List.mem_cons_self
    refine St2.setCs c is _ _ (S.setA i h1 h2 q1 q2 h3) fun b hb => ?_
    obtain ⟨h1', h2', h3'⟩ := h b (List.mem_cons_of_mem _ hb)
    refine ⟨h1', h2', fun j ys q => ?_⟩
    rcases set_some q with ⟨rfl, hl, q⟩ | ⟨hj, q⟩
    · rw [List.getElem?_set_self (by rw [S.len]; exact hl)]
      intro z
      cases z
      exact q3 hb
    · rw [List.getElem?_set_ne hj]; exact h3' j ys q
def wPar (is : List Nat) (R : RCs) : W2 := fun Nx _ ε => ∃ cs, R (mk ε) cs ∧ cs.length = is.length ∧ Nx (setCell ε is cs)
theorem Cls.len {K : PySem.W.Frag} {H : Hp} {MM : List Addr} : ∀ {N : List Addr} {vs : List V} {cs : List Cell}, Cls K H MM N vs cs → vs.length = cs.length
  | _, _, _, .nil => rfl
  | _, _, _, .d _ c => by rw [List.length_cons, List.length_cons, c.len]
  | _, _, _, .o _ _ _ c => by rw [List.length_cons, List.length_cons, c.len]
theorem wPar_run {is : List Nat} {R : RCs} {D : Ends} {σ : L2.St} {H : Hp} (q : tS X.K T (wPar is R) D σ H) : tDC X.K T R σ H fun vs H1 => vs.length = is.length ∧ D.nx (setV σ is vs) H1 := by
  obtain ⟨M0, M, ε, Nx, Rt, S, ⟨cs, r, hl, q⟩, k1, k2⟩ := q
  refine ⟨mk ε, cs, M, S.sat, r, fun vs H' N MM g le mk' mm wf c => ⟨c.len.trans hl, ?_⟩⟩
  have S' : St2 X.K T M0 MM H' σ ε := ⟨g.2 S.tabs, mk', fun a ha => (mm a).2 (.inr (S.sub a ha)), S.len, fun i d e => let ⟨v, h1, h2⟩ := S.dat i d e; ⟨v, h1, h2.le le⟩,
    fun i d e => let ⟨a, us, h1, h2, h3, h4, h5⟩ := S.own i d e; ⟨a, us, h1, (mm a).2 (.inr h2), h3, g.1 _ _ h4 (fun ps z => by cases z), h5.le le⟩, S.dis⟩
  have f : Fr T M0 H M H' MM := ⟨fun b o q n z => ⟨g.1 _ _ q n, by
    rcases z with z | z
    · refine .inl fun hb => ?_
      rcases (mm b).1 hb with hb | hb
      · obtain ⟨ps, e⟩ := wf b hb _ q
        exact n ps e
      · exact z hb
    · exact .inr z⟩, g.2⟩
  refine k1 _ H' MM _ f (St2.setCs c is σ ε S' fun a ha => ⟨(mm a).2 (.inl ha), fun z => ?_, fun j ys e => ?_⟩) q
  · obtain ⟨o, e, n⟩ := S.msk a (S.sub a z)
    obtain ⟨ps, q⟩ := wf a ha o e
    exact n.1 ps q
  · obtain ⟨b, us, h1, h2, h3, h4, h5⟩ := S.own j ys e
    rw [h1]
    intro z
    cases z
    obtain ⟨ps, q⟩ := wf _ ha _ h4
    cases q
theorem ds_par2 {i j : Nat} {st : Stmt} {R : RCs} (h : PS X st (tPar i j (tDC X.K T R))) : DS X T st (wPar [i, j] R) := ps_weak h fun D σ H q => by
  have := wPar_run q
  obtain ⟨ρ, cs, M, S, r, k⟩ := this
  refine ⟨ρ, cs, M, S, r, fun vs H' N MM g le mk' mm wf c => ?_⟩
  obtain ⟨hl, q⟩ := k vs H' N MM g le mk' mm wf c
  match vs, hl, q with
  | [v, w], _, q => exact ⟨v, w, rfl, q⟩
theorem ds_par3 {i j l : Nat} {st : Stmt} {R : RCs} (h : PS X st (tPar3 i j l (tDC X.K T R))) : DS X T st (wPar [i, j, l] R) := ps_weak h fun D σ H q => by
  have := wPar_run q
  obtain ⟨ρ, cs, M, S, r, k⟩ := this
  refine ⟨ρ, cs, M, S, r, fun vs H' N MM g le mk' mm wf c => ?_⟩
  obtain ⟨hl, q⟩ := k vs H' N MM g le mk' mm wf c
  match vs, hl, q with
  | [v, w, u], _, q => exact ⟨v, w, u, rfl, q⟩
end
end Vk

/-! ## VkZip -/
set_option Elab.async false
set_option linter.all false
set_option maxRecDepth 100000
set_option maxHeartbeats 1000000
/-! zip of two lists or tuples whose pairs are kept: list(zip(..)). -/
namespace Vk
open PySem PySem.Spec PyProof.Rows
section
variable {prog : Program} {w : World} {A : Around} {E : Value → Shared → Prop} {s : Shared} {z TI TO i1 i2 : Addr} {fp1 fp2 : List Addr} {n1 n2 i : Nat} {P1 P2 : Nat → Value → Prop} {St1 St2 : Nat → Heap → Prop}
theorem draws_over {it : Addr} {fp : List Addr} {n : Nat} {P : Nat → Value → Prop} {St : Nat → Heap → Prop} (D : Draws prog w A it fp n P St) {h h' : Heap} {c : Addr} {i : Nat} (st : St i h) (hs : Heap.SameBut c h h') (hc : c ∉ fp) : St i h' :=
  D.frame _ _ _ st fun b hb o e => hs.extBut b o (fun q => hc (q ▸ hb)) e
/-- the tuple given out before is still there: a new one is made -/
theorem zipKept_item {T : Addr} {f : Bool} {oT : Obj} {Q : Value → Shared → Prop} (S : ZipSep2 z TI TO i1 i2 fp1 fp2) (D1 : Draws prog w A i1 fp1 n1 P1 St1) (D2 : Draws prog w A i2 fp2 n2 P2 St2)
    (hz : IsZipHeld s.heap z TI TO T f) (hT : s.heap.get? T = some oT) (hTI : IsTupOf2 s.heap TI (.ref i1) (.ref i2)) (st1 : St1 i s.heap) (st2 : St2 i s.heap) (hlt1 : i < n1) (hlt2 : i < n2)
    (hQ : ∀ x1 x2 h' tk, P1 i x1 → P2 i x2 → IsZipHeld h' z TI TO T true → St1 (i + 1) h' → St2 (i + 1) h' → IsTupOf2 h' s.heap.objs.size x1 x2 → h'.objs.size = s.heap.objs.size + 1 →
      (∀ c o, c ≠ z → c ≠ i1 → c ≠ i2 → s.heap.get? c = some o → h'.get? c = some o) → Q (.ref s.heap.objs.size) { s with heap := h', toks := tk }) :
    wpAny (model prog w) A (Builtin.«zip.__next__» ⟨[.ref z], []⟩) (fun fin s' => ∃ v, fin = .done (.ret v) ∧ Q v s') E s := by
  obtain ⟨hp, g, d, tk0, os⟩ := s
  show wpAny _ _ (field (.ref z) 2 >>= _) _ _ _
  refine wpAny_bind (wpAny_field hz rfl (x := .bool false) rfl ?_)
  show wpAny _ _ (field (.ref z) 3 >>= _) _ _ _
  refine wpAny_bind (wpAny_field hz rfl (x := .ref TI) rfl ?_)
  refine wpAny_bind (wpAny_seqItems hTI rfl ?_)
  show wpAny _ _ (Builtin.SmallTypes.ownedTupleIsFree (.ref z) >>= _) _ _ _
  refine wpAny_bind (wpAny_tupleHeld_zip hz hT fun g0 hz0 hs0 => ?_)
  simp only [Bool.false_eq_true, if_false]
  replace hs0 : Heap.SameBut z hp g0 := hs0
  refine wpAny_bind ?_
  rw [← Array.forIn_toList]
  simp only [List.forIn_cons, List.forIn_nil]
  refine wpAny_bind (wpAny_bind (wpAny_holding ?_))
  show wpAny _ _ (Builtin.SmallTypes.nextOf (.ref i1) >>= _) _ _ ⟨g0, g, d, tk0, os⟩
  refine wpAny_bind (D1.item i _ _ _ hlt1 (draws_over D1 st1 hs0 S.zf1) fun x1 p1 tk1 hx1 sn1 hp1 => wpAny_pure ?_)
  replace hp1 : Heap.SameBut i1 g0 p1 := hp1
  refine wpAny_pure ?_
  refine wpAny_bind (wpAny_bind (wpAny_holding ?_))
  show wpAny _ _ (Builtin.SmallTypes.nextOf (.ref i2) >>= _) _ _ ⟨p1, g, d, tk1, os⟩
  refine wpAny_bind (D2.item i _ _ _ hlt2 (draws_over D2 (draws_over D2 st2 hs0 S.zf2) hp1 S.sep1_2) fun x2 p2 tk2 hx2 sn2 hp2 => wpAny_pure ?_)
  replace hp2 : Heap.SameBut i2 p1 p2 := hp2
  refine wpAny_pure (wpAny_pure ?_)
  show wpAny _ _ (newTuple [x1, x2] >>= _) _ _ ⟨p2, g, d, tk2, os⟩
  refine wpAny_bind (wpAny_newTuple ?_)
  have hsz : p2.objs.size = hp.objs.size := by rw [hp2.1, hp1.1, hs0.1]
  have hz2 : IsZipHeld p2 z TI TO T true := hp2.extBut _ _ S.zi2 (hp1.extBut _ _ S.zi1 hz0)
  have hk : ∀ c o, c ≠ z → c ≠ i1 → c ≠ i2 → hp.get? c = some o → p2.get? c = some o := fun c o c1 c2 c3 e => hp2.extBut _ _ c3 (hp1.extBut _ _ c2 (hs0.extBut _ _ c1 e))
  refine wpAny_pure ⟨_, rfl, ?_⟩
  show Q (.ref p2.objs.size) ⟨p2.push { cls := .type "tuple", data := .seq #[x1, x2] }, g, d, tk2, os⟩
  have ht : IsTupOf2 (p2.push { cls := .type "tuple", data := .seq #[x1, x2] }) p2.objs.size x1 x2 := Heap.get?_push_size _ rfl
  have hz4 : (p2.push { cls := .type "tuple", data := .seq #[x1, x2] }).objs.size = p2.objs.size + 1 := Heap.size_push ..
  rw [hsz] at ht hz4 ⊢
  exact hQ x1 x2 _ tk2 hx1 hx2 (Heap.get?_push_of_some _ hz2) (D1.frame _ _ _ (draws_over D1 sn1 hp2 S.sep2_1) fun b _ o e => Heap.get?_push_of_some _ e) (D2.frame _ _ _ sn2 fun b _ o e => Heap.get?_push_of_some _ e) ht hz4 fun c o c1 c2 c3 e => Heap.get?_push_of_some _ (hk c o c1 c2 c3 e)
theorem zipKept_end {T : Addr} {f : Bool} {oT : Obj} {Q : Fin → Shared → Prop} (S : ZipSep2 z TI TO i1 i2 fp1 fp2) (D1 : Draws prog w A i1 fp1 n1 P1 St1) (D2 : Draws prog w A i2 fp2 n2 P2 St2)
    (hz : IsZipHeld s.heap z TI TO T f) (hT : s.heap.get? T = some oT) (hTI : IsTupOf2 s.heap TI (.ref i1) (.ref i2)) (st1 : St1 i s.heap) (st2 : St2 i s.heap) (hle1 : i ≤ n1) (hle2 : i ≤ n2) (hend : i = n1 ∨ i = n2)
    (hE : ∀ h' tk e, (∀ c o, c ≠ z → c ≠ i1 → c ≠ i2 → s.heap.get? c = some o → h'.get? c = some o) → (∃ o, h'.get? e = some o ∧ o.cls = .type "StopIteration") → E (.ref e) { s with heap := h', toks := tk }) :
    wpAny (model prog w) A (Builtin.«zip.__next__» ⟨[.ref z], []⟩) Q E s := by
  obtain ⟨hp, g, d, tk0, os⟩ := s
  show wpAny _ _ (field (.ref z) 2 >>= _) _ _ _
  refine wpAny_bind (wpAny_field hz rfl (x := .bool false) rfl ?_)
  show wpAny _ _ (field (.ref z) 3 >>= _) _ _ _
  refine wpAny_bind (wpAny_field hz rfl (x := .ref TI) rfl ?_)
  refine wpAny_bind (wpAny_seqItems hTI rfl ?_)
  show wpAny _ _ (Builtin.SmallTypes.ownedTupleIsFree (.ref z) >>= _) _ _ _
  refine wpAny_bind (wpAny_tupleHeld_zip hz hT fun g0 hz0 hs0 => ?_)
  simp only [Bool.false_eq_true, if_false]
  replace hs0 : Heap.SameBut z hp g0 := hs0
  refine wpAny_bind ?_
  rw [← Array.forIn_toList]
  simp only [List.forIn_cons, List.forIn_nil]
  refine wpAny_bind (wpAny_bind (wpAny_holding ?_))
  show wpAny _ _ (Builtin.SmallTypes.nextOf (.ref i1) >>= _) _ _ ⟨g0, g, d, tk0, os⟩
  rcases Nat.lt_or_ge i n1 with hlt | hge
  · have e2 : i = n2 := hend.resolve_left (Nat.ne_of_lt hlt)
    subst e2
    refine wpAny_bind (D1.item i _ _ _ hlt (draws_over D1 st1 hs0 S.zf1) fun x1 p1 tk1 hx1 sn1 hp1 => wpAny_pure ?_)
    replace hp1 : Heap.SameBut i1 g0 p1 := hp1
    refine wpAny_pure ?_
    refine wpAny_bind (wpAny_bind (wpAny_holding ?_))
    show wpAny _ _ (Builtin.SmallTypes.nextOf (.ref i2) >>= _) _ _ ⟨p1, g, d, tk1, os⟩
    refine wpAny_bind (D2.done _ _ _ (draws_over D2 (draws_over D2 st2 hs0 S.zf2) hp1 S.sep1_2) fun h' e hk he => ?_)
    exact hE h' tk1 e (fun c o c1 c2 c3 q => hk c o c3 (hp1.extBut _ _ c2 (hs0.extBut _ _ c1 q))) he
  · have e1 : i = n1 := Nat.le_antisymm hle1 hge
    subst e1
    refine wpAny_bind (D1.done _ _ _ (draws_over D1 st1 hs0 S.zf1) fun h' e hk he => ?_)
    exact hE h' tk0 e (fun c o c1 c2 _ q => hk c o c2 (hs0.extBut _ _ c1 q)) he
/-- before the i-th turn, all pairs kept -/
def ZSt (z TI TO i1 i2 : Addr) (St1 St2 : Nat → Heap → Prop) (i : Nat) (h : Heap) : Prop := IsTupOf2 h TI (.ref i1) (.ref i2) ∧ St1 i h ∧ St2 i h ∧ (∃ o, h.get? TO = some o) ∧
  ((IsZip h z TI TO .none ∧ ∃ a b, IsTupOf2 h TO a b) ∨ ∃ T f oT, IsZipHeld h z TI TO T f ∧ h.get? T = some oT ∧ T ≠ z ∧ T ≠ i1 ∧ T ≠ i2)
theorem ZSt.isZip {h : Heap} (x : ZSt z TI TO i1 i2 St1 St2 i h) : ∃ o, h.get? z = some o ∧ o.cls = .type "zip" := by
  obtain ⟨_, _, _, _, ⟨hz, _⟩ | ⟨T, f, oT, hz, _⟩⟩ := x
  · exact ⟨_, hz, rfl⟩
  · exact ⟨_, hz, rfl⟩
theorem held_one {h : Heap} {T T' : Addr} {f f' : Bool} (a : IsZipHeld h z TI TO T' f') (e : IsZipHeld h z TI TO T f) : T = T' := by
  have q := e.symm.trans a
  injection q with q
  injection q with _ _ q _
  injection q with q
  have q0 := congrArg (fun l : Array Value => l[0]?) q
  simp only [List.getElem?_toArray, List.getElem?_cons_zero] at q0
  injection q0 with q0
  injection q0 with q0 _
  exact Int.ofNat.inj q0
theorem next_kept (S : ZipSep2 z TI TO i1 i2 fp1 fp2) (D1 : Draws prog w A.in1 i1 fp1 n1 P1 St1) (D2 : Draws prog w A.in1 i2 fp2 n2 P2 St2) {Q : Option Value → Shared → Prop} (st : ZSt z TI TO i1 i2 St1 St2 i s.heap) (hlt1 : i < n1) (hlt2 : i < n2)
    (hQ : ∀ x1 x2 h' tk, P1 i x1 → P2 i x2 → ZSt z TI TO i1 i2 St1 St2 (i + 1) h' → (∀ T f, IsZipHeld h' z TI TO T f → T = s.heap.objs.size ∨ ∃ f', IsZipHeld s.heap z TI TO T f') → IsTupOf2 h' s.heap.objs.size x1 x2 → h'.objs.size = s.heap.objs.size + 1 →
      (∀ c o, c ≠ z → c ≠ TO → c ≠ i1 → c ≠ i2 → s.heap.get? c = some o → h'.get? c = some o) → Q (some (.ref s.heap.objs.size)) { s with heap := h', toks := tk }) :
    wpAny (model prog w) A (pyNext (.ref z)) Q E s := by
  obtain ⟨hTI, st1, st2, ⟨oTO, hTOx⟩, hz⟩ := st
  have lt : ∀ {c : Addr} {o : Obj}, s.heap.get? c = some o → s.heap.objs.size ≠ c := fun e => Nat.ne_of_gt (Heap.lt_size e)
  obtain ⟨_, ei1⟩ := D1.live _ _ st1
  obtain ⟨_, ei2⟩ := D2.live _ _ st2
  rcases hz with ⟨hz, a, b, hTO⟩ | ⟨T, f, oT, hz, hT, r1, r2, r3⟩
  · refine wpAny_pyNext_zipD2_item S D1 D2 hz hTI hTO st1 st2 hlt1 hlt2 fun x1 x2 h' tk p1 p2 a1 a2 b1 b2 ht hsz hk => ?_
    refine hQ x1 x2 h' tk p1 p2 ⟨hk _ _ S.TIz S.TITO S.TIi1 S.TIi2 hTI, b1, b2, ⟨_, a2⟩, .inr ⟨s.heap.objs.size, false, _, a1, ht, lt hz, lt ei1, lt ei2⟩⟩ (fun T f e => .inl (held_one a1 e)) ht hsz hk
  · have hTy : s.TypeIs (.ref z) "zip" := ⟨_, hz, rfl⟩
    unfold pyNext
    refine wpAny_bind (wpAny_attempt (wpAny_callSpecial?_slot (name := Str.ofString "__next__") hTy F.slot_zip_next
      (wpAny_call_entry F.slot_zip_next hTy F.entry_zip_next
        (zipKept_item S D1 D2 hz hT hTI st1 st2 hlt1 hlt2 fun x1 x2 h' tk p1 p2 a1 b1 b2 ht hsz hk => wpAny_pure (hQ x1 x2 h' tk p1 p2
          ⟨hk _ _ S.TIz S.TIi1 S.TIi2 hTI, b1, b2, ⟨_, hk _ _ S.TOz S.Ti1 S.Ti2 hTOx⟩, .inr ⟨T, true, oT, a1, hk _ _ r1 r2 r3 hT, r1, r2, r3⟩⟩ (fun T' f' e => .inr (by rw [held_one (T := T') (T' := T) a1 e]; exact ⟨f, hz⟩)) ht hsz fun c o c1 _ c3 c4 e => hk c o c1 c3 c4 e)) (F.args_zip_next_1 _))))
theorem next_keptEnd (S : ZipSep2 z TI TO i1 i2 fp1 fp2) (D1 : Draws prog w A.in1 i1 fp1 n1 P1 St1) (D2 : Draws prog w A.in1 i2 fp2 n2 P2 St2) {Q : Option Value → Shared → Prop} (st : ZSt z TI TO i1 i2 St1 St2 i s.heap) (hle1 : i ≤ n1) (hle2 : i ≤ n2) (hend : i = n1 ∨ i = n2)
    (hQ : ∀ h' tk, (∀ c o, c ≠ z → c ≠ TO → c ≠ i1 → c ≠ i2 → s.heap.get? c = some o → h'.get? c = some o) → Q none { s with heap := h', toks := tk }) : wpAny (model prog w) A (pyNext (.ref z)) Q E s := by
  obtain ⟨hTI, st1, st2, ⟨oTO, hTOx⟩, hz⟩ := st
  rcases hz with ⟨hz, a, b, hTO⟩ | ⟨T, f, oT, hz, hT, r1, r2, r3⟩
  · exact wpAny_pyNext_zipD2_end S D1 D2 hz hTI hTO st1 st2 hle1 hle2 hend hQ
  · have hTy : s.TypeIs (.ref z) "zip" := ⟨_, hz, rfl⟩
    unfold pyNext
    refine wpAny_bind (wpAny_attempt (wpAny_callSpecial?_slot (name := Str.ofString "__next__") hTy F.slot_zip_next
      (wpAny_call_entry F.slot_zip_next hTy F.entry_zip_next (zipKept_end S D1 D2 hz hT hTI st1 st2 hle1 hle2 hend fun h' tk e hk he => ?_) (F.args_zip_next_1 _))))
    obtain ⟨o, ho, hc⟩ := he
    refine wpAny_bind (wpAny_isInstance (T := "StopIteration") (b := true) ⟨o, ho, hc⟩ isSubtype_stop ?_)
    exact wpAny_pure (hQ _ _ fun c o c1 _ c3 c4 e => hk c o c1 c3 c4 e)
theorem zip_noLen : typeLookup (.type "zip") "__len__" = pure none := am_miss_of_fast (by decide +kernel)
theorem zip_noHint : typeLookup (.type "zip") "__length_hint__" = pure none := am_miss_of_fast (by decide +kernel)
/-- the list so far -/
def ZAcc (P1 P2 : Nat → Value → Prop) (N : Nat) (S z TO i1 i2 : Addr) (i : Nat) (acc : Array Value) (h : Heap) : Prop := acc.size = i ∧ (∀ j, j < i → ∃ T x1 x2, acc[j]? = some (.ref T) ∧ P1 j x1 ∧ P2 j x2 ∧ IsTupOf2 h T x1 x2 ∧ T ≠ S ∧ T ≠ z ∧ T ≠ TO ∧ T ≠ i1 ∧ T ≠ i2 ∧ N ≤ T) ∧ ∀ j k, j < k → k < i → acc[j]? ≠ acc[k]?
theorem ZAcc.keep {N : Nat} {S : Addr} {acc : Array Value} {h h' : Heap} (x : ZAcc P1 P2 N S z TO i1 i2 i acc h) (k : ∀ c o, c ≠ S → c ≠ z → c ≠ TO → c ≠ i1 → c ≠ i2 → h.get? c = some o → h'.get? c = some o) : ZAcc P1 P2 N S z TO i1 i2 i acc h' :=
  ⟨x.1, fun j hj => let ⟨T, x1, x2, a, b, c, d, e1, e2, e3, e4, e5, e6⟩ := x.2.1 j hj; ⟨T, x1, x2, a, b, c, k _ _ e1 e2 e3 e4 e5 d, e1, e2, e3, e4, e5, e6⟩, x.2.2⟩
theorem zip_extend {R : Result → Shared → Prop} (S : ZipSep2 z TI TO i1 i2 fp1 fp2) (D1 : Draws prog w A.in1.in1 i1 fp1 n1 P1 St1) (D2 : Draws prog w A.in1.in1 i2 fp2 n2 P2 St2) (L : Addr) (hLz : L ≠ z) (hLT : L ≠ TI) (hLO : L ≠ TO) (hL1 : L ∉ fp1) (hL2 : L ∉ fp2) (hn : min n1 n2 ≤ sizeLine) (N : Nat) :
    ∀ (k i : Nat) (s : Shared) (acc : Array Value) (c : Nat), min n1 n2 - i = k → i ≤ min n1 n2 → N ≤ s.heap.objs.size → ZSt z TI TO i1 i2 St1 St2 i s.heap → s.heap.get? L = some { cls := .type "list", dict := none, data := .seq acc c, slots := #[] } → ZAcc P1 P2 N L z TO i1 i2 i acc s.heap →
      (∀ h' tk acc' c', (∀ c o, c ≠ L → c ≠ z → c ≠ TO → c ≠ i1 → c ≠ i2 → s.heap.get? c = some o → h'.get? c = some o) → h'.get? L = some { cls := .type "list", dict := none, data := .seq acc' c', slots := #[] } → ZAcc P1 P2 N L z TO i1 i2 (min n1 n2) acc' h' → R (.ok (.ret .none)) { s with heap := h', toks := tk }) →
      codeAny (model prog w) A (.builtin "list.extend.loop" ⟨[.ref L, .ref z, .none], []⟩) R s := by
  have hL1' : L ≠ i1 := fun e => hL1 (e ▸ S.mem1)
  have hL2' : L ≠ i2 := fun e => hL2 (e ▸ S.mem2)
  intro k
  induction k with
  | zero =>
    intro i s acc c hk hi hNs st hS ha hR
    have hin : i = min n1 n2 := by omega
    refine codeAny_builtin F.entry_extend_loop ?_
    rw [Around.under_plainId F.plain_extend_loop _]
    show wpAny _ A.in1 (pyNext (.ref z) >>= _) _ _ s
    refine wpAny_bind (next_keptEnd S D1 D2 st (by omega) (by omega) (by omega) fun h' tk kp => ?_)
    subst hin
    exact wpAny_pure (hR h' tk acc c (fun c o _ c1 c2 c3 c4 e => kp c o c1 c2 c3 c4 e) (kp _ _ hLz hLO hL1' hL2' hS) (ha.keep fun c o _ c1 c2 c3 c4 e => kp c o c1 c2 c3 c4 e))
  | succ k ih =>
    intro i s acc c hk hi hNs st hS ha hR
    refine codeAny_builtin F.entry_extend_loop ?_
    rw [Around.under_plainId F.plain_extend_loop _]
    show wpAny _ A.in1 (pyNext (.ref z) >>= _) _ _ s
    obtain ⟨oz, hoz, _⟩ := st.isZip
    have e1 := D1.live _ _ st.2.1
    have e2 := D2.live _ _ st.2.2.1
    obtain ⟨_, eTO⟩ := st.2.2.2.1
    refine wpAny_bind (next_kept S D1 D2 st (by omega) (by omega) fun x1 x2 h' tk p1 p2 st' _ ht hsz kp => ?_)
    have hS' := kp _ _ hLz hLO hL1' hL2' hS
    have hnew : s.heap.objs.size ≠ L := Nat.ne_of_gt (Heap.lt_size hS)
    show wpAny _ A.in1 (updateSeq L (·.push (.ref s.heap.objs.size)) >>= _) _ _ _
    refine wpAny_bind ?_
    have oth : ∀ b o, b ≠ L → h'.get? b = some o → (h'.update L (Obj.mapSeq (·.push (.ref s.heap.objs.size)))).get? b = some o := fun b o hb e => (Heap.get?_update_other _ _ (Ne.symm hb)).trans e
    refine wpAny_updateSeq hS' rfl (wpAny_pure ⟨plainId_quiet F.plain_extend_loop _, ih (i + 1) { s with heap := h'.update L (Obj.mapSeq (·.push (.ref s.heap.objs.size))), toks := tk } (acc.push (.ref s.heap.objs.size)) _ (by omega) (by omega) (by show N ≤ (h'.update L _).objs.size; rw [Heap.size_update, hsz]; omega) ?_ (Heap.get?_update_self _ hS' rfl) ?_ fun h'' tk' acc' c' kp' hS'' ha' => ?_⟩)
      (by rw [ha.1]; omega) (by show (acc.push (.ref s.heap.objs.size)).size ≤ sizeLine + 1; rw [Array.size_push, ha.1]; omega)
    · obtain ⟨q1, q2, q3, ⟨_, qO⟩, q4⟩ := st'
      refine ⟨oth _ _ (Ne.symm hLT) q1, D1.frame _ _ _ q2 fun b hb o e => oth b o (fun z => hL1 (z ▸ hb)) e, D2.frame _ _ _ q3 fun b hb o e => oth b o (fun z => hL2 (z ▸ hb)) e, ⟨_, oth _ _ (Ne.symm hLO) qO⟩, ?_⟩
      rcases q4 with ⟨q4, a, b, q5⟩ | ⟨T, f, oT, q4, q5, r1, r2, r3⟩
      · exact .inl ⟨oth _ _ (Ne.symm hLz) q4, a, b, oth _ _ (Ne.symm hLO) q5⟩
      · by_cases hTL : T = L
        · subst hTL
          exact .inr ⟨T, f, _, oth _ _ (Ne.symm hLz) q4, Heap.get?_update_self _ hS' rfl, r1, r2, r3⟩
        · exact .inr ⟨T, f, oT, oth _ _ (Ne.symm hLz) q4, oth _ _ hTL q5, r1, r2, r3⟩
    · have old : ∀ j, j < i → (acc.push (Value.ref s.heap.objs.size))[j]? = acc[j]? := fun j hji => by
        rw [Array.getElem?_push_lt (by rw [ha.1]; exact hji), ← Array.getElem?_eq_getElem]
      refine ⟨by rw [Array.size_push, ha.1], fun j hj => ?_, fun j k' hjk hk' => ?_⟩
      rotate_left
      · by_cases hk2 : k' < i
        · rw [old j (by omega), old k' hk2]; exact ha.2.2 j k' hjk hk2
        · have ek : k' = i := by omega
          subst ek
          rw [old j (by omega)]
          obtain ⟨T, y1, y2, a, b, c, d, _⟩ := ha.2.1 j (by omega)
          rw [a, ← ha.1, Array.getElem?_push_size]
          intro e
          injection e with e
          injection e with e
          exact Nat.ne_of_lt (Heap.lt_size d) e
      by_cases hji : j < i
      · obtain ⟨T, y1, y2, a, b, c, d, d1, d2, d3, d4, d5, d6⟩ := ha.2.1 j hji
        exact ⟨T, y1, y2, by rw [old j hji]; exact a, b, c, oth _ _ d1 (kp _ _ d2 d3 d4 d5 d), d1, d2, d3, d4, d5, d6⟩
      · have ej : j = i := by omega
        subst ej
        refine ⟨s.heap.objs.size, x1, x2, ?_, p1, p2, oth _ _ hnew ht, hnew, Nat.ne_of_gt (Heap.lt_size hoz), ?_, ?_, ?_, hNs⟩
        · rw [← ha.1, Array.getElem?_push_size]
        · exact Nat.ne_of_gt (Heap.lt_size eTO)
        · obtain ⟨o, e⟩ := e1; exact Nat.ne_of_gt (Heap.lt_size e)
        · obtain ⟨o, e⟩ := e2; exact Nat.ne_of_gt (Heap.lt_size e)
    · exact hR h'' tk' acc' c' (fun c o a1 a2 a3 a4 a5 e => kp' c o a1 a2 a3 a4 a5 (oth c o a1 (kp c o a2 a3 a4 a5 e))) hS'' ha'
theorem list_initZip {R : Result → Shared → Prop} (S : ZipSep2 z TI TO i1 i2 fp1 fp2) (D1 : Draws prog w A.in1.in1 i1 fp1 n1 P1 St1) (D2 : Draws prog w A.in1.in1 i2 fp2 n2 P2 St2) (L : Addr) (hLz : L ≠ z) (hLT : L ≠ TI) (hLO : L ≠ TO) (hL1 : L ∉ fp1) (hL2 : L ∉ fp2) (hn : min n1 n2 ≤ sizeLine) (N : Nat) (hNs : N ≤ s.heap.objs.size)
    (st : ZSt z TI TO i1 i2 St1 St2 0 s.heap) (hz0 : IsZip s.heap z TI TO .none) (hS : s.heap.get? L = some { cls := .type "list", data := .seq #[] })
    (hR : ∀ h' tk acc' c', (∀ c o, c ≠ L → c ≠ z → c ≠ TO → c ≠ i1 → c ≠ i2 → s.heap.get? c = some o → h'.get? c = some o) → h'.get? L = some { cls := .type "list", dict := none, data := .seq acc' c', slots := #[] } → ZAcc P1 P2 N L z TO i1 i2 (min n1 n2) acc' h' → R (.ok (.ret .none)) { s with heap := h', toks := tk }) :
    wpAny (model prog w) A.in1 (Builtin.«list.__init__» ⟨[.ref L, .ref z], []⟩)
      (fun fin s' => match fin with | .done f => R (.ok f) s' | .again c' => c'.quiet = true ∧ codeAny (model prog w) A c' R s') (fun e s' => R (.error e) s') s := by
  have move : ∀ {h h' : Heap}, ZSt z TI TO i1 i2 St1 St2 0 h → (∀ b o, b ≠ L → h.get? b = some o → h'.get? b = some o) → (∃ oL, h'.get? L = some oL) → ZSt z TI TO i1 i2 St1 St2 0 h' := fun {h h'} x oth hl => by
    obtain ⟨q1, q2, q3, ⟨_, qO⟩, q4⟩ := x
    refine ⟨oth _ _ (Ne.symm hLT) q1, D1.frame _ _ _ q2 fun b hb o e => oth b o (fun z => hL1 (z ▸ hb)) e, D2.frame _ _ _ q3 fun b hb o e => oth b o (fun z => hL2 (z ▸ hb)) e, ⟨_, oth _ _ (Ne.symm hLO) qO⟩, ?_⟩
    rcases q4 with ⟨q4, a, b, q5⟩ | ⟨T, f, oT, q4, q5, r1, r2, r3⟩
    · exact .inl ⟨oth _ _ (Ne.symm hLz) q4, a, b, oth _ _ (Ne.symm hLO) q5⟩
    · by_cases hTL : T = L
      · subst hTL
        obtain ⟨oL, e⟩ := hl
        exact .inr ⟨T, f, _, oth _ _ (Ne.symm hLz) q4, e, r1, r2, r3⟩
      · exact .inr ⟨T, f, oT, oth _ _ (Ne.symm hLz) q4, oth _ _ hTL q5, r1, r2, r3⟩
  show wpAny _ A.in1 (do let old ← Builtin.List.listItems (.ref L); Builtin.List.listUpdate (.ref L) (fun _ => #[]); letGo old.toList.reverse; Builtin.List.listExtendWith (.ref L) (.ref z) .none) _ _ s
  refine wpAny_bind ?_
  unfold Builtin.List.listItems
  refine wpAny_bind (wpAny_seqItems hS rfl (wpAny_pure ?_))
  show wpAny _ A.in1 (updateSeq L (fun _ => #[]) >>= fun _ => letGo (#[] : Array Value).toList.reverse >>= fun _ => Builtin.List.listExtendWith (.ref L) (.ref z) .none) _ _ s
  refine wpAny_bind (wpAny_updateSeq hS rfl ?_)
  have hS₂ := Heap.get?_update_self (Obj.mapSeq (fun _ => (#[] : Array Value))) hS rfl
  have oth : ∀ b o, b ≠ L → s.heap.get? b = some o → (s.heap.update L (Obj.mapSeq (fun _ => (#[] : Array Value)))).get? b = some o :=
    fun b o hb e => (Heap.get?_update_other _ _ (Ne.symm hb)).trans e
  have st2 := move st oth ⟨_, hS₂⟩
  refine wpAny_bind (wpAny_letGo ?_)
  unfold Builtin.List.listExtendWith
  obtain ⟨oz, hoz, hcz⟩ := st2.isZip
  have hT : Shared.TypeIs { s with heap := s.heap.update L (Obj.mapSeq (fun _ => (#[] : Array Value))) } (.ref z) "zip" := ⟨oz, hoz, hcz⟩
  refine wpAny_bind (wpAny_typeOf hT ?_)
  have h1 : Builtin.List.listSameRef (.ref L) (.ref z) = false := by simp [Builtin.List.listSameRef, hLz]
  have h2 : (Value.type "zip" == Value.type "list") = false := by decide
  have h3 : (Value.type "zip" == Value.type "tuple") = false := by decide
  simp only [h1, h2, h3, Bool.or_false, Bool.false_eq_true, if_false]
  refine wpAny_bind (wpAny_pyIter_zip (oth _ _ (Ne.symm hLz) hz0) ?_)
  refine wpAny_bind (wpAny_holding ?_)
  unfold Builtin.List.listLengthHint
  refine wpAny_bind (wpAny_specialOf hT zip_noLen ?_)
  show wpAny _ A.in1 (specialOf (Value.ref z) (Str.ofString "__length_hint__") >>= _) _ _ _
  refine wpAny_bind (wpAny_specialOf hT zip_noHint ?_)
  refine wpAny_pure ?_
  show wpAny _ A.in1 (rule "list.extend.makes-room" >>= fun _ => Builtin.List.listTouch (.ref L) >>= fun _ =>
    again (.builtin "list.extend.loop" ⟨[.ref L, .ref z, .none], []⟩)) _ _ _
  refine wpAny_bind (wpAny_rule ?_)
  refine wpAny_bind ?_
  show wpAny _ A.in1 (updateSeq L (·.push .none) >>= fun _ => updateSeq L (·.pop)) _ _ _
  refine wpAny_bind (wpAny_updateSeq hS₂ rfl ?_)
  have hS₃ := Heap.get?_update_self (Obj.mapSeq (·.push Value.none)) hS₂ rfl
  refine wpAny_updateSeq (hz := by seq_fits) hS₃ rfl ?_
  have hS₄ := Heap.get?_update_self (Obj.mapSeq (·.pop)) hS₃ rfl
  have oth2 : ∀ b o, b ≠ L → s.heap.get? b = some o → (((s.heap.update L (Obj.mapSeq (fun _ => (#[] : Array Value)))).update L (Obj.mapSeq (·.push Value.none))).update L (Obj.mapSeq (·.pop))).get? b = some o :=
    fun b o hb e => (Heap.get?_update_other _ _ (Ne.symm hb)).trans ((Heap.get?_update_other _ _ (Ne.symm hb)).trans (oth b o hb e))
  refine wpAny_pure ⟨plainId_quiet F.plain_extend_loop _, zip_extend S D1 D2 L hLz hLT hLO hL1 hL2 hn N (min n1 n2) 0 _ _ _ rfl (Nat.zero_le _) (by show N ≤ (Heap.update _ _ _).objs.size; rw [Heap.size_update, Heap.size_update, Heap.size_update]; exact hNs) (move st oth2 ⟨_, hS₄⟩) hS₄ ⟨rfl, fun j hj => absurd hj (Nat.not_lt_zero _), fun j k _ hk => absurd hk (Nat.not_lt_zero _)⟩ fun h' tk acc' c' kp hS' ha => ?_⟩
  exact hR h' tk acc' c' (fun c o a1 a2 a3 a4 a5 e => kp c o a1 a2 a3 a4 a5 (oth2 c o a1 e)) hS' ha
set_option maxHeartbeats 3200000 in
/-- list(z), z a zip just made -/
theorem call_listZip {Q : Value → Shared → Prop} (S : ZipSep2 z TI TO i1 i2 fp1 fp2) (D1 : Draws prog w A.in1.in1.in1 i1 fp1 n1 P1 St1) (D2 : Draws prog w A.in1.in1.in1 i2 fp2 n2 P2 St2) (hn : min n1 n2 ≤ sizeLine) (N : Nat) (hNs : N ≤ s.heap.objs.size)
    (st : ZSt z TI TO i1 i2 St1 St2 0 s.heap) (hz0 : IsZip s.heap z TI TO .none) (h1 : ∀ b ∈ fp1, b < s.heap.objs.size) (h2 : ∀ b ∈ fp2, b < s.heap.objs.size)
    (hQ : ∀ h' tk acc' c', (∀ c o, c ≠ z → c ≠ TO → c ≠ i1 → c ≠ i2 → s.heap.get? c = some o → h'.get? c = some o) → h'.get? s.heap.objs.size = some { cls := .type "list", dict := none, data := .seq acc' c', slots := #[] } → ZAcc P1 P2 N s.heap.objs.size z TO i1 i2 (min n1 n2) acc' h' → Q (.ref s.heap.objs.size) { s with heap := h', toks := tk }) :
    wpAny (model prog w) A (call (.type "list") [.ref z]) Q E s := by
  refine callType_codes (Q₁ := fun obj s₁ => obj = .ref s.heap.objs.size ∧ s₁ = { s with heap := s.heap.push { cls := .type "list", data := .seq #[] } }) F.called_list (F.typeCall_list_1 _) F.entry_list_init
    (code_list_new _ ⟨rfl, rfl⟩) fun obj s₁ h₁ => ?_
  obtain ⟨rfl, rfl⟩ := h₁
  have hS : (s.heap.push { cls := .type "list", data := .seq #[] }).get? s.heap.objs.size = some { cls := .type "list", data := .seq #[] } := Heap.get?_push_size _ rfl
  obtain ⟨q1, q2, q3, ⟨oTO, qO⟩, q4⟩ := st
  have up : ∀ c o, s.heap.get? c = some o → (s.heap.push { cls := .type "list", data := .seq #[] }).get? c = some o := fun c o e => Heap.get?_push_of_some _ e
  have st' : ZSt z TI TO i1 i2 St1 St2 0 (s.heap.push { cls := .type "list", data := .seq #[] }) := by
    refine ⟨up _ _ q1, D1.frame _ _ _ q2 fun b _ o e => up b o e, D2.frame _ _ _ q3 fun b _ o e => up b o e, ⟨_, up _ _ qO⟩, ?_⟩
    rcases q4 with ⟨q4, a, b, q5⟩ | ⟨T, f, oT, q4, q5, r1, r2, r3⟩
    · exact .inl ⟨up _ _ q4, a, b, up _ _ q5⟩
    · exact .inr ⟨T, f, oT, up _ _ q4, up _ _ q5, r1, r2, r3⟩
  refine ⟨⟨_, hS, rfl⟩, F.args_list_init_2 _ _, list_initZip (s := { s with heap := s.heap.push { cls := .type "list", data := .seq #[] } }) S D1 D2 s.heap.objs.size (Nat.ne_of_gt (Heap.lt_size hz0)) (Nat.ne_of_gt (Heap.lt_size q1)) (Nat.ne_of_gt (Heap.lt_size qO)) (fun hm => Nat.lt_irrefl _ (h1 _ hm)) (fun hm => Nat.lt_irrefl _ (h2 _ hm)) hn N
    (by show N ≤ (s.heap.push _).objs.size; rw [Heap.size_push]; omega) st' (up _ _ hz0) hS fun h' tk acc' c' kp hS' ha => ?_⟩
  exact ⟨rfl, hQ h' tk acc' c' (fun c o a1 a2 a3 a4 e => kp c o (Nat.ne_of_lt (Heap.lt_size e)) a1 a2 a3 a4 (up c o e)) hS' ha⟩
end
end Vk

/-! ## VkZipD -/
set_option Elab.async false
set_option linter.all false
set_option maxRecDepth 100000
set_option maxHeartbeats 2000000
/-! list(zip(xs, ys)) over data. -/
namespace Vk
open PySem PySem.Spec PyProof.Rows PySem.W L2 LamX StX
/-- what zip draws from: a list or a tuple -/
theorem src_of {h : Heap} {l : Addr} {items : Array Value} (hl : h.IsList l items ∨ h.IsTuple l items) : ∃ (o : Obj) (Hs : Heap → Prop) (St : Addr → Nat → Heap → Prop), Begins (.ref l) o Hs ∧ Hs h ∧
    (∀ (it : Addr) (P : Program) (w : World) (A : Around), l ≠ it → A.handled = none → Draws P w A it [it, l] items.size (fun i v => items[i]? = some v) (St it)) ∧
    (∀ (it : Addr) (h' : Heap), h'.get? it = some o → (∀ c o', h.get? c = some o' → h'.get? c = some o') → St it 0 h') ∧ ∀ (it : Addr) (i : Nat) (h' : Heap), St it i h' → ∀ b ∈ [it, l], ∃ o', h'.get? b = some o' := by
  have two : ∀ {h' : Heap} {it : Addr}, (∃ o', h'.get? it = some o') → (∃ o', h'.get? l = some o') → ∀ b ∈ [it, l], ∃ o', h'.get? b = some o' := fun x y b hb => by
    rcases List.mem_cons.mp hb with e | hb
    · rw [e]; exact x
    · rw [List.mem_singleton.mp hb]; exact y
  rcases hl with hl | hl
  · exact ⟨_, _, fun it i h => h.IsListIter it l i ∧ h.IsList l items, begins_list l items, hl, fun it P w A hne hh => .list hh it l hne items, fun it h' e k => ⟨⟨_, e, rfl, rfl⟩, hl.at fun o q => k _ o q⟩, fun it i h' ⟨⟨o1, a1, _⟩, ⟨o2, a2, _⟩⟩ => two ⟨o1, a1⟩ ⟨o2, a2⟩⟩
  · exact ⟨_, _, fun it i h => h.IsTupleIter it l i ∧ h.IsTuple l items, begins_tuple l items, hl, fun it P w A hne hh => .tuple hh it l hne items, fun it h' e k => ⟨⟨_, e, rfl, rfl⟩, hl.at fun o q => k _ o q⟩, fun it i h' ⟨⟨o1, a1, _⟩, ⟨o2, a2, _⟩⟩ => two ⟨o1, a1⟩ ⟨o2, a2⟩⟩
def rfA : Value → Addr
  | .ref a => a
  | _ => 0
theorem zacc_list {P1 P2 : Nat → Value → Prop} {N n : Nat} {S z TO i1 i2 : Addr} {acc : Array Value} {h : Heap} (a : ZAcc P1 P2 N S z TO i1 i2 n acc h) : ∃ Ts : List Addr, Ts.length = n ∧ acc.toList = Ts.map Value.ref ∧ Ts.Nodup ∧ ∀ (j : Nat) T, Ts[j]? = some T → ∃ x1 x2, P1 j x1 ∧ P2 j x2 ∧ IsTupOf2 h T x1 x2 ∧ N ≤ T ∧ T ≠ S := by
  have key : ∀ (j : Nat) v, acc.toList[j]? = some v → ∃ T x1 x2, v = .ref T ∧ P1 j x1 ∧ P2 j x2 ∧ IsTupOf2 h T x1 x2 ∧ N ≤ T ∧ T ≠ S := fun j v e => by
    have hj : j < n := by
      have := (List.getElem?_eq_some_iff.mp e).1
      rw [Array.length_toList, a.1] at this; exact this
    obtain ⟨T, x1, x2, e1, p1, p2, t, n1, _, _, _, _, n2⟩ := a.2.1 j hj
    rw [Array.getElem?_toList, e1] at e
    cases e
    exact ⟨T, x1, x2, rfl, p1, p2, t, n2, n1⟩
  have eTs : acc.toList = (acc.toList.map rfA).map Value.ref := by
    rw [List.map_map]
    conv => lhs; rw [← List.map_id acc.toList]
    refine List.map_congr_left fun v hv => ?_
    obtain ⟨j, hj, e⟩ := List.getElem_of_mem hv
    obtain ⟨T, _, _, ev, _⟩ := key j v (by rw [List.getElem?_eq_getElem hj, e])
    rw [ev]; rfl
  refine ⟨acc.toList.map rfA, by rw [List.length_map, Array.length_toList]; exact a.1, eTs, ?_, fun j T e => ?_⟩
  · rw [List.nodup_iff_pairwise_ne, List.pairwise_iff_getElem]
    intro i j hi hj hij e
    rw [List.length_map] at hi hj
    have hjn : j < n := by rw [Array.length_toList, a.1] at hj; exact hj
    refine a.2.2 i j hij hjn ?_
    rw [List.getElem_map, List.getElem_map] at e
    obtain ⟨T, _, _, ev, _⟩ := key i acc.toList[i] (List.getElem?_eq_getElem hi)
    obtain ⟨T', _, _, ev', _⟩ := key j acc.toList[j] (List.getElem?_eq_getElem hj)
    rw [ev, ev'] at e
    have e' : T = T' := e
    rw [← Array.getElem?_toList, ← Array.getElem?_toList, List.getElem?_eq_getElem hi, List.getElem?_eq_getElem hj, ev, ev', e']
  · rw [List.getElem?_map] at e
    cases q : acc.toList[j]? with
    | none => rw [q] at e; cases e
    | some v =>
      rw [q] at e
      obtain ⟨T', x1, x2, ev, r⟩ := key j v q
      subst ev
      cases e
      exact ⟨x1, x2, r⟩
section
variable {X : Cx} {T : TabL}
def pairD (p : PyData × PyData) : PyData := .tuple [p.1, p.2]
def rLz (R R' : RE) : RE := fun ρ z => ∃ d e xs ys, R ρ d ∧ R' ρ e ∧ seqOf d = some xs ∧ seqOf e = some ys ∧ xs.length ≤ 1000000 ∧ z = .list ((xs.zip ys).map pairD)
theorem seq_raw {pins : List (Addr × Obj)} {σ : L2.St} {H : Hp} {M : List Addr} {s : Shared} {l : Addr} {vs : List V} (I : Inv X pins σ H s) (hq : hid H M l = some (.tup vs) ∨ hid H M l = some (.lst vs)) : ∃ its : List Value, Vals vs its ∧ (s.heap.IsList l its.toArray ∨ s.heap.IsTuple l its.toArray) := by
  rcases hq with hq | hq
  · obtain ⟨its, rv, pl, _⟩ := I.tuple (SqT.of (K := X.K) (hid_some hq).2)
    exact ⟨its, rv, .inr pl⟩
  · obtain ⟨its, rv, pl, _⟩ := I.list (SqL.of (K := X.K) (hid_some hq).2)
    exact ⟨its, rv, .inl pl.isList⟩
theorem seq_lt {h : Heap} {l : Addr} {items : Array Value} (hl : h.IsList l items ∨ h.IsTuple l items) : l < h.objs.size := by
  rcases hl with ⟨o, ho, _⟩ | ⟨o, ho, _⟩
  · exact Heap.lt_size ho
  · exact Heap.lt_size ho
theorem pairs_each {K : PySem.W.Frag} {H : Hp} : ∀ {vs1 vs2 : List V} {xs ys : List PyData} {Ts : List Addr}, IsDs K H vs1 xs → IsDs K H vs2 ys → Ts.length = min vs1.length vs2.length →
    (∀ (j : Nat) T, Ts[j]? = some T → ∃ v w, vs1[j]? = some v ∧ vs2[j]? = some w ∧ H T = some (.tup [v, w])) → IsDs K H (Ts.map V.ref) ((xs.zip ys).map pairD)
  | _, _, _, _, [], .nil, _, _, _ => .nil
  | _, _, _, _, [], .cons _ _, .nil, _, _ => .nil
  | _, _, _, _, [], .cons _ _, .cons _ _, h, _ => by simp at h
  | _, _, _, _, T :: Ts, .nil, _, h, _ => by simp at h
  | _, _, _, _, T :: Ts, .cons _ _, .nil, h, _ => by simp at h
  | _, _, _, _, T :: Ts, .cons i1 t1, .cons i2 t2, h, hp => by
    obtain ⟨v, w, e1, e2, e3⟩ := hp 0 T rfl
    simp at e1 e2
    subst e1 e2
    refine .cons (.tup e3 (.cons i1 (.cons i2 .nil))) (pairs_each t1 t2 (by simp only [List.length_cons] at h; omega) fun j T' e => ?_)
    obtain ⟨v, w, a, b, c⟩ := hp (j + 1) T' (by simpa using e)
    exact ⟨v, w, by simpa using a, by simpa using b, c⟩
theorem de_listZip {e1 e2 : Expr} {R R' : RE} {p p2 q pos : Pos} (hc : X.calm = true) (hg : Gl X "list") (hm : X.mg "list" = none) (hg2 : Gl X "zip") (hm2 : X.mg "zip" = none) (h1 : DE X T e1 R) (h2 : DE X T e2 R')
    (na : starEach [e1, e2] X.env = (false, eval e1 X.env) :: starEach [e2] X.env := by rfl) (nb : starEach [e2] X.env = (false, eval e2 X.env) :: starEach [] X.env := by rfl) (hpl : (backTo q (starEach [e2] X.env)).any (·.1) = false := by rfl) :
    DE X T (.Call (.Name "list" p) [.Call (.Name "zip" p2) [e1, e2] [] q] [] pos) (rLz R R') := by
  refine ⟨fun pins s σ H Q I h => ?_⟩
  obtain ⟨ρ, z, M, S, ⟨d, e, xs, ys, r1, r2, es1, es2, hl, ez⟩, k⟩ := h
  subst ez
  refine Call_ (ld_blt I hg hm PyProof.Rows.boot_list ?_)
  refine PyProof.Rows.callWith_type1 (PyProof.Rows.args_cons ?_ rfl) rfl rfl
  refine Call_ (ld_blt I hg2 hm2 PyProof.Rows.boot_zip ?_)
  refine PyProof.Rows.callWith_type1 (thn ((pa_cons h1 (pa_cons h2 pa_nil nb) na).run q pins s σ H (fun vs H1 => ∃ v w, vs = [v, w] ∧ Gr T H H1 ∧ IsD X.K (hid H1 M) v d ∧ IsD X.K (hid H1 M) w e) I ?_) fun us s1 ⟨vs, H1, I1, rv, v, w, ev, g1, i1, i2⟩ => ?_) na hpl
  · exact tD2 S r1 r2 fun v u H' g j1 j2 => ⟨v, u, rfl, g, j1, j2⟩
  subst ev
  obtain ⟨u1, u2, rfl, ra, rb⟩ := rv.two
  obtain ⟨l1, vs1, rfl, hq1, t1⟩ := seq_parts i1 es1
  obtain ⟨l2, vs2, rfl, hq2, t2⟩ := seq_parts i2 es2
  cases ra
  cases rb
  obtain ⟨its1, rv1, pl1⟩ := seq_raw I1 hq1
  obtain ⟨its2, rv2, pl2⟩ := seq_raw I1 hq2
  have S1 := S.gr g1
  have hh := I1.ok.hd hc
  obtain ⟨o1, Hs1, St1, B1, b1, D1, z1, _⟩ := src_of pl1
  obtain ⟨o2, Hs2, St2, B2, b2, D2, z2, _⟩ := src_of pl2
  have lt1 := seq_lt pl1
  have lt2 := seq_lt pl2
  have hlen1 := t1.length
  have hlen2 := t2.length
  have hv1 := rv1.length
  have hv2 := rv2.length
  refine zip_begins2 B1 B2 b1 b2 fun h' hz hTI hTO g1' g2' hsz hk => PyProof.Rows.args_nil ?_
  have I2 : Inv X pins σ H1 { s1 with heap := h' } := I1.kept (t' := s1.toks) hk
  have SP := zip_sep2 (N := s1.heap.objs.size) (fp1 := [l1]) (fp2 := [l2]) (fun b hb => by rw [List.mem_singleton.mp hb]; exact lt1) (fun b hb => by rw [List.mem_singleton.mp hb]; exact lt2)
  have off : ∀ n m : Nat, n < m → (n : Nat) ≠ m + 1 := fun n m h e => by omega
  have hh3 : X.A.in1.in1.in1.handled = none := by simp [hh]
  refine call_listZip (s := { s1 with heap := h' }) SP (D1 s1.heap.objs.size X.prog X.w _ (Nat.ne_of_lt lt1) hh3) (D2 (s1.heap.objs.size + 1) X.prog X.w _ (off _ _ lt2) hh3) (by rw [List.size_toArray]; have : xs.length ≤ sizeLine := line_of hl; omega) s1.heap.objs.size (by show s1.heap.objs.size ≤ h'.objs.size; rw [hsz]; omega)
    ⟨hTI, z1 _ _ g1' hk, z2 _ _ g2' hk, ⟨_, hTO⟩, .inl ⟨hz, _, _, hTO⟩⟩ hz (fun b hb => ?_) (fun b hb => ?_) fun h'' tk acc c kp hS ha => ?_
  · show b < h'.objs.size
    rw [hsz]
    rcases List.mem_cons.mp hb with e | hb
    · rw [e]; exact Nat.lt_add_of_pos_right (by decide)
    · rw [List.mem_singleton.mp hb]; exact Nat.lt_add_right 5 lt1
  · show b < h'.objs.size
    rw [hsz]
    rcases List.mem_cons.mp hb with e | hb
    · rw [e]; exact Nat.add_lt_add_left (by decide) _
    · rw [List.mem_singleton.mp hb]; exact Nat.lt_add_right 5 lt2
  · obtain ⟨Ts, hTl, eTs, nd, hT⟩ := zacc_list ha
    have hSz : h'.objs.size = s1.heap.objs.size + 5 := hsz
    have kall : ∀ b o, s1.heap.get? b = some o → h''.get? b = some o := fun b o e => by
      have hb : b < s1.heap.objs.size := Heap.lt_size e
      refine kp b o ?_ ?_ ?_ ?_ (hk b o e)
      · intro q; rw [q] at hb; exact absurd hb (Nat.not_lt.mpr (Nat.le_add_right _ _))
      · intro q; rw [q] at hb; exact absurd hb (Nat.not_lt.mpr (Nat.le_add_right _ _))
      · intro q; rw [q] at hb; exact absurd hb (Nat.lt_irrefl _)
      · intro q; rw [q] at hb; exact absurd hb (Nat.not_lt.mpr (Nat.le_add_right _ _))
    have I3 : Inv X pins σ H1 { s1 with heap := h'', toks := tk } := I1.kept kall
    have nH : ∀ b, s1.heap.objs.size ≤ b → H1 b = none := fun b hb => I1.hok.fresh hb
    have hLn : H1 h'.objs.size = none := nH _ (by rw [hsz]; exact Nat.le_add_right _ _)
    have hacc : acc.size = min its1.toArray.size its2.toArray.size := ha.1
    have hx : xs.length ≤ sizeLine := line_of hl
    have I3' : Inv X pins σ (upd H1 h'.objs.size (.lst (Ts.map V.ref))) { s1 with heap := h'', toks := tk } := by
      refine I3.take (h' := h'') (t' := tk) (fun b ob _ e => e) (I1.fpOk (by show s1.heap.objs.size ≤ h'.objs.size; rw [hsz]; exact Nat.le_add_right _ _) hLn) ⟨?_, Ts.map Value.ref, c, ?_, ?_⟩
      · rw [List.length_map, hTl, List.size_toArray]; omega
      · have : ∀ L : List Addr, Vals (L.map V.ref) (L.map Value.ref) := fun L => by
          induction L with
          | nil => exact .nil
          | cons a L ih => exact .cons rfl ih
        exact this Ts
      · rw [← eTs]
        simpa using hS
    have hTn : ∀ a ∈ Ts, ∃ j : Nat, Ts[j]? = some a := fun a ham => by
      obtain ⟨j, hj, e⟩ := List.getElem_of_mem ham
      exact ⟨j, by rw [List.getElem?_eq_getElem hj, e]⟩
    obtain ⟨H2, I4, gT, hH2⟩ := L2.DX.takeT (P := fun a us => ∃ (j : Nat) (v w : V), Ts[j]? = some a ∧ vs1[j]? = some v ∧ vs2[j]? = some w ∧ us = [v, w]) I1 Ts _ I3' nd fun a ham => by
      obtain ⟨j, ej⟩ := hTn a ham
      obtain ⟨x1, x2, p1, p2, tu, hN, hne⟩ := hT j a ej
      refine ⟨hN, by rw [upd_ne hne]; exact nH a hN, ?_⟩
      have q1 : its1[j]? = some x1 := by simpa using p1
      have q2 : its2[j]? = some x2 := by simpa using p2
      have l1' : j < vs1.length := by rw [hv1]; exact (List.getElem?_eq_some_iff.mp q1).1
      have l2' : j < vs2.length := by rw [hv2]; exact (List.getElem?_eq_some_iff.mp q2).1
      obtain ⟨y1, ey1, ry1⟩ := rv1.get (List.getElem?_eq_getElem l1')
      obtain ⟨y2, ey2, ry2⟩ := rv2.get (List.getElem?_eq_getElem l2')
      rw [q1] at ey1
      rw [q2] at ey2
      cases ey1
      cases ey2
      exact ⟨[vs1[j], vs2[j]], ⟨j, _, _, ej, List.getElem?_eq_getElem l1', List.getElem?_eq_getElem l2', rfl⟩, fun H2 => ⟨by show 2 ≤ sizeLine; decide, [x1, x2], .cons ry1 (.cons ry2 .nil), ⟨_, tu, rfl, _, rfl⟩⟩⟩
    have gg : Gr T H1 H2 := (Gr.upd hLn).trans (Gr.of gT)
    have frM : ∀ b, s1.heap.objs.size ≤ b → b ∉ M := fun b hb => msk_fresh S1.msk (nH b hb)
    refine ⟨.ref h'.objs.size, H2, I4, rfl, k _ _ (g1.trans gg) (.lst (hid_of (frM _ (by rw [hsz]; exact Nat.le_add_right _ _)) (gT _ _ upd_same)) (pairs_each (t1.gr gg) (t2.gr gg) ?_ fun j a ej => ?_))⟩
    · rw [hTl, List.size_toArray, List.size_toArray, hv1, hv2]
    · have ham : a ∈ Ts := List.mem_of_getElem? ej
      obtain ⟨us, ⟨j', v, w, ej', ev, ew, eu⟩, e⟩ := hH2 a ham
      have ejj : j' = j := by
        have l1 := (List.getElem?_eq_some_iff.mp ej').1
        have l2 := (List.getElem?_eq_some_iff.mp ej).1
        have a1 := (List.getElem?_eq_some_iff.mp ej').2
        have a2 := (List.getElem?_eq_some_iff.mp ej).2
        exact (List.getElem_inj nd).mp (a1.trans a2.symm)
      subst ejj
      obtain ⟨_, _, _, _, _, hN, _⟩ := hT _ a ej
      exact ⟨v, w, ev, ew, hid_of (frM a hN) (by rw [e, eu])⟩
end
end Vk

/-! ## VkDict -/
set_option Elab.async false
set_option linter.all false
set_option maxRecDepth 100000
set_option maxHeartbeats 2000000
/-! Dicts with text keys over data: made of pairs, looked up, their values walked. -/
namespace Vk
open PySem PySem.Spec PyProof.Rows PySem.W L2 LamX StX
section
variable {X : Cx} {T : TabL}
/-- a new mutable thing is locked at once -/
theorem pe_frz {e : Expr} {t : TE} (h : PE X e t) : PE X e (fun σ H Q => t σ H fun v H1 => ∃ p u, v = .ref p ∧ H1 p = some u ∧ Mut (some u) ∧ ∀ od, Q v (upd H1 p (.frz od u))) := ⟨fun pins s σ H Q I q =>
  thn (h.run pins s σ H _ I q) fun u s1 ⟨v, H1, I1, r, p, o, ev, hp, mu, q1⟩ => by
    obtain ⟨od, I2⟩ := I1.lock hp mu
    exact ⟨v, _, I2, r, q1 od⟩⟩
/-! ### keys -/
def lookD (ks : List Str) (xs : List PyData) (k : Str) : Option PyData := ((ks.zip xs).find? fun p => decide (p.1 = k)).map (·.2)
theorem look_rel {K : PySem.W.Frag} {H : Hp} (k : Str) : ∀ {ks : List Str} {vs : List V} {xs : List PyData}, IsDs K H vs xs → ks.length = vs.length →
    (lookD ks xs k = none ∧ valV ((ks.map (Sum.inr : Str → Key)).zip vs) (.inr k) = none) ∨ ∃ d v, lookD ks xs k = some d ∧ valV ((ks.map (Sum.inr : Str → Key)).zip vs) (.inr k) = some v ∧ IsD K H v d
  | [], _, _, _, _ => .inl ⟨rfl, rfl⟩
  | c :: ks, _, _, .nil, h => by cases h
  | c :: ks, _, _, .cons (v := v) (d := d) i t, h => by
    by_cases e : c = k
    · subst e
      exact .inr ⟨d, v, by simp [lookD], by simp [valV], i⟩
    · have ih := look_rel k (ks := ks) t (Nat.succ.inj h)
      have e1 : ∀ xs, lookD (c :: ks) (d :: xs) k = lookD ks xs k := fun xs => by simp [lookD, e]
      have e2 : ∀ vs, valV (((c :: ks).map (Sum.inr : Str → Key)).zip (v :: vs)) (.inr k) = valV ((ks.map (Sum.inr : Str → Key)).zip vs) (.inr k) := fun vs => by
        rw [List.map_cons, List.zip_cons_cons]
        exact valV_neg fun z => e (Sum.inr.inj z)
      rw [e1, e2]
      exact ih
theorem look_some {ks : List Str} {xs : List PyData} {k : Str} : ks.length = xs.length → ((lookD ks xs k).isSome = true ↔ k ∈ ks) := by
  induction ks generalizing xs with
  | nil => intro _; simp [lookD]
  | cons c ks ih =>
    intro h
    cases xs with
    | nil => cases h
    | cons x xs =>
      have ih := ih (xs := xs) (Nat.succ.inj h)
      by_cases e : c = k
      · subst e; simp [lookD]
      · have e1 : lookD (c :: ks) (x :: xs) k = lookD ks xs k := by simp [lookD, e]
        rw [e1, ih]
        simp [Ne.symm e]
theorem mergeK_nodup : ∀ (more kvs : List (Key × V)), ((kvs ++ more).map (·.1)).Nodup → mergeK kvs more = kvs ++ more
  | [], kvs, _ => by rw [List.append_nil]; rfl
  | p :: more, kvs, h => by
    have hn : valV kvs p.1 = none := by
      have hp : p.1 ∉ kvs.map (·.1) := by
        rw [List.map_append, List.map_cons] at h
        exact fun hm => (List.nodup_append.mp h).2.2 _ hm _ List.mem_cons_self rfl
      unfold valV
      rw [List.find?_eq_none.mpr fun q hq => ?_]; rfl
      simp only [decide_eq_true_eq]
      exact fun e => hp (e ▸ List.mem_map.mpr ⟨q, hq, rfl⟩)
    show mergeK (putK kvs p.1 p.2) more = kvs ++ p :: more
    rw [putK_new p.2 hn, mergeK_nodup more (kvs ++ [(p.1, p.2)]) (by simpa using h)]
    simp
/-! ### d[k], k in d -/
def phGet : Phi2 := fun d e z => (∃ ks xs k, d = .dict ((ks.map PyData.str).zip xs) ∧ ks.length = xs.length ∧ e = .str k ∧ lookD ks xs k = some z) ∨
  ∃ (ps : List (List Str × Bool)) (k : KS) (b : Bool), d = .dict (ps.map fun p => (dS p.1, PyData.bool p.2)) ∧ ps ≠ [] ∧ e = dS k ∧ (ps.find? fun p => decide (p.1 = k)).map (·.2) = some b ∧ z = .bool b
theorem zip_inj {α : Type} : ∀ {ks ks' : List α} {xs ys : List PyData}, ks.length = xs.length → ks'.length = ys.length → ks.zip xs = ks'.zip ys → ks = ks' ∧ xs = ys
  | [], [], [], [], _, _, _ => ⟨rfl, rfl⟩
  | [], _ :: _, [], _ :: _, _, _, h => by cases h
  | _ :: _, [], _ :: _, [], _, _, h => by cases h
  | a :: as, b :: bs, x :: xs, y :: ys, h1, h2, h => by
    rw [List.zip_cons_cons, List.zip_cons_cons] at h
    injection h with e1 e2
    injection e1 with e1 e3
    obtain ⟨q1, q2⟩ := zip_inj (Nat.succ.inj h1) (Nat.succ.inj h2) e2
    rw [e1, e3, q1, q2]; exact ⟨rfl, rfl⟩
theorem dik_of {K : PySem.W.Frag} {H : Hp} {v : V} {ks : List Str} {xs : List PyData} (h : IsD K H v (.dict ((ks.map PyData.str).zip xs))) (hl : ks.length = xs.length) : (∃ a o vs, v = .ref a ∧ H a = some (.frz o (.dK ((ks.map Sum.inr).zip vs))) ∧ ks.length = vs.length ∧ IsDs K H vs xs) ∨ ks = [] := by
  generalize hd : (ks.map PyData.str).zip xs = l at h
  generalize hdd : PyData.dict l = dd at h
  cases h with
  | @dik a o ks' vs ds h1 h2 t =>
    injection hdd with hdd
    rw [hdd] at hd
    have h3 : ks'.length = ds.length := h2.trans t.length
    obtain ⟨e1, e2⟩ := zip_inj (by rw [List.length_map]; exact hl) (by rw [List.length_map]; exact h3) hd
    have e3 := mapStr_inj e1
    subst e3
    subst e2
    exact .inl ⟨a, o, vs, rfl, h1, h2, t⟩
  | @dit a o ps h1 =>
    injection hdd with hdd
    rw [hdd] at hd
    cases ks with
    | nil => exact .inr rfl
    | cons k ks =>
      cases xs with
      | nil => cases hl
      | cons x xs =>
        cases ps with
        | nil => cases hd
        | cons p ps =>
          rw [List.map_cons, List.zip_cons_cons, List.map_cons] at hd
          injection hd with hd _
          injection hd with hd _
          cases hd
  | _ => cases hdd
theorem mapTB_inj : ∀ {ps qs : List (List Str × Bool)}, (ps.map fun p => (dS p.1, PyData.bool p.2)) = (qs.map fun p => (dS p.1, PyData.bool p.2)) → ps = qs
  | [], [], _ => rfl
  | [], _ :: _, h => by cases h
  | _ :: _, [], h => by cases h
  | p :: ps, q :: qs, h => by
    rw [List.map_cons, List.map_cons] at h
    injection h with h1 h2
    injection h1 with h1 h3
    injection h3 with h3
    rw [mapTB_inj h2]
    have := dS_inj h1
    cases p
    cases q
    simp only at this h3
    rw [this, h3]
theorem dit_of {K : PySem.W.Frag} {H : Hp} {v : V} {ps : List (List Str × Bool)} (h : IsD K H v (.dict (ps.map fun p => (dS p.1, PyData.bool p.2)))) (hne : ps ≠ []) : ∃ a o, v = .ref a ∧ H a = some (.frz o (.dT (ps.map fun p => (p.1.map Sum.inr, V.bl p.2)))) := by
  generalize hd : (ps.map fun p => (dS p.1, PyData.bool p.2)) = l at h
  generalize hdd : PyData.dict l = dd at h
  cases h with
  | @dik a o ks' vs ds h1 h2 t =>
    injection hdd with hdd
    rw [hdd] at hd
    cases ps with
    | nil => exact absurd rfl hne
    | cons p ps =>
      cases ks' with
      | nil => cases hd
      | cons k ks' =>
        cases ds with
        | nil => cases hd
        | cons x xs =>
          rw [List.map_cons, List.map_cons, List.zip_cons_cons] at hd
          injection hd with hd _
          injection hd with hd _
          cases hd
  | @dit a o ps' h1 =>
    injection hdd with hdd
    rw [hdd] at hd
    have := mapTB_inj hd
    subst this
    exact ⟨a, o, rfl, h1⟩
  | _ => cases hdd
theorem kVs_texts (k : List Str) : (k.map (Sum.inr : Str → Key)).map kV = k.map V.str := by rw [List.map_map]; rfl
theorem valT_find : ∀ (ps : List (List Str × Bool)) (k : List Str), valV (ps.map fun p => (p.1.map (Sum.inr : Str → Key), V.bl p.2)) (k.map Sum.inr) = ((ps.find? fun p => decide (p.1 = k)).map (·.2)).map V.bl
  | [], _ => rfl
  | p :: ps, k => by
    have inj : p.1.map (Sum.inr : Str → Key) = k.map Sum.inr ↔ p.1 = k := by
      constructor
      · intro h
        have : ∀ {a b : List Str}, a.map (Sum.inr : Str → Key) = b.map Sum.inr → a = b := by
          intro a
          induction a with
          | nil => intro b h; cases b with
            | nil => rfl
            | cons _ _ => cases h
          | cons x a ih => intro b h; cases b with
            | nil => cases h
            | cons y b =>
              rw [List.map_cons, List.map_cons] at h
              injection h with h1 h2
              injection h1 with h1
              rw [h1, ih h2]
        exact this h
      · intro h; rw [h]
    rw [List.map_cons]
    by_cases e : p.1 = k
    · rw [valV_pos (inj.2 e), List.find?_cons_of_pos (by simp [e])]; rfl
    · rw [valV_neg (fun z => e (inj.1 z)), List.find?_cons_of_neg (by simp [e])]
      exact valT_find ps k
theorem de_get {R R' : RE} {a b : Expr} {pos : Pos} (hu : X.A.units + 1 < cLine) (ha : DE X T a R) (hb : DE X T b R') (hs : NoSl b) : DE X T (.Subscript a b pos) (rBin phGet R R') := pe_weak (pe_dget hu ha hb hs) fun σ H Q ⟨ρ, z, M, S, ⟨d, e, r1, r2, ph⟩, k⟩ =>
  tD2 S r1 r2 fun v u H' g i1 i2 => by
    rcases ph with ⟨ks, xs, k', e1, hl, e2, e3⟩ | ⟨ps, k', b', e1, hne, e2, e3, e4⟩
    · subst e1; subst e2
      cases i2
      rcases dik_of i1 hl with ⟨p, o, vs, rfl, hp, hl2, t⟩ | rfl
      · rcases look_rel k' t hl2 with ⟨q1, _⟩ | ⟨d', w, q1, q2, q3⟩
        · rw [q1] at e3; cases e3
        · rw [q1] at e3
          cases e3
          exact ⟨p, w, rfl, .inl ⟨_, .inr k', .inr ⟨o, (hid_some hp).2⟩, rfl, q2.symm⟩, k w H' g q3⟩
      · cases e3
    · subst e1; subst e2; subst e4
      obtain ⟨p, o, rfl, hp⟩ := dit_of i1 hne
      have i2' : IsD X.K (hid H' M) u (.tuple (k'.map .str)) := i2
      cases i2' with
      | @tup c us _ hc t =>
        rw [t.strs] at hc
        refine ⟨p, .bl b', rfl, .inr ⟨_, k'.map Sum.inr, c, .inr ⟨o, (hid_some hp).2⟩, rfl, ?_, ?_⟩, k _ H' g (.bl b')⟩
        · rw [kVs_texts]; exact (hid_some hc).2
        · rw [valT_find, e3]; rfl
/-- k in d -/
def phKey (neg : Bool) : Phi2 := fun e d z => ∃ ks xs k, d = .dict ((ks.map PyData.str).zip xs) ∧ ks.length = xs.length ∧ ks ≠ [] ∧ e = .str k ∧ z = .bool (if neg then !decide (k ∈ ks) else decide (k ∈ ks))
theorem key_run {K : PySem.W.Frag} {R R' : RE} {neg : Bool} {σ : L2.St} {H : Hp} {Q : VK} (q : tD K T (rBin (phKey neg) R R') σ H Q) :
    (tD K T R) σ H fun y H1 => (tD K T R') σ H1 fun x H2 => ∃ a o, x = .ref a ∧ DGet H2 a y o ∧ Q (.bl (if neg then !o.isSome else o.isSome)) H2 := by
  obtain ⟨ρ, z, M, S, ⟨e, d, r1, r2, ks, xs, k', e1, hl, hne, e2, e3⟩, k⟩ := q
  refine tD2 S r1 r2 fun v u H' g i1 i2 => ?_
  subst e1; subst e2; subst e3
  cases i1
  rcases dik_of i2 hl with ⟨p, o, vs, rfl, hp, hl2, t⟩ | e
  · have hs := look_some (k := k') hl
    have key : (valV ((ks.map (Sum.inr : Str → Key)).zip vs) (.inr k')).isSome = decide (k' ∈ ks) := by
      rcases look_rel k' t hl2 with ⟨q1, q2⟩ | ⟨d', w, q1, q2, _⟩
      · rw [q2]
        rw [q1] at hs
        exact (decide_eq_false fun z => nomatch hs.2 z).symm
      · rw [q2]
        rw [q1] at hs
        exact (decide_eq_true (hs.1 rfl)).symm
    refine ⟨p, _, rfl, .inl ⟨_, .inr k', .inr ⟨o, (hid_some hp).2⟩, rfl, rfl⟩, ?_⟩
    rw [key]
    exact k _ H' g (.bl _)
  · exact absurd e hne
theorem de_inD {R R' : RE} {a b : Expr} {pos : Pos} (hu : X.A.units + 1 < cLine) (ha : DE X T a R) (hb : DE X T b R') (hm : behindInMarks .In b = false) : DE X T (.Compare a [.In] [b] pos) (rBin (phKey false) R R') :=
  pe_weak (pe_cmp (pc_din hu ha hb) hm) fun σ H Q q => key_run (neg := false) q
theorem dt_inD {R R' : RE} {a b : Expr} {pos : Pos} (hu : X.A.units + 1 < cLine) (ha : DE X T a R) (hb : DE X T b R') (hm : behindInMarks .In b = false) : DT X T (.Compare a [.In] [b] pos) (rOf (rBin (phKey false) R R')) :=
  pt_weak (pt_cmp (pc_din hu ha hb) hm) fun σ H Q q => tT_of (t := tDIn (tD X.K T R) (tD X.K T R')) (fun σ H Q q => key_run (neg := false) q) q
theorem dt_notInD {R R' : RE} {a b : Expr} {pos : Pos} (hu : X.A.units + 1 < cLine) (ha : DE X T a R) (hb : DE X T b R') (hm : behindInMarks .NotIn b = false) : DT X T (.Compare a [.NotIn] [b] pos) (rOf (rBin (phKey true) R R')) :=
  pt_weak (pt_cmp (pc_dnotin hu ha hb) hm) fun σ H Q q => tT_of (t := tDNotIn (tD X.K T R) (tD X.K T R')) (fun σ H Q q => key_run (neg := true) q) q
/-! ### for x in d.values() -/
def rVals (R : RE) : RA := fun ρ xs => ∃ ks : List Str, R ρ (.dict ((ks.map PyData.str).zip xs)) ∧ ks.length = xs.length ∧ ks ≠ [] ∧ xs.length ≤ 1000000
theorem di_values {tg e : Expr} {R : RE} {apos cpos : Pos} (h : DE X T e R) (hbase : attributeBase e "values" X.env (eval e X.env) = eval e X.env := by rfl) (hline : (apos.endLine == cpos.line) = true := by rfl) : DI X T tg (.Call (.Attribute e "values" apos) [] [] cpos) (rVals R) :=
  ⟨fun pins s σ H J I q => (pi_values h hbase hline).run pins s σ H J I (by
    obtain ⟨ρ, xs, M, S, ⟨ks, r, hl, hne, hz⟩, k⟩ := q
    refine tD1 S r fun v H1 g i => ?_
    rcases dik_of i hl with ⟨a, o, vs, rfl, ha, hl2, t⟩ | e
    · refine ⟨a, o, _, rfl, (hid_some ha).2, k _ H1 g (line_of hz) fun H M' mk l => ?_⟩
      have ha' : H a = some (.frz o (.dK ((ks.map Sum.inr).zip vs))) := (hid_some (l _ _ ha fun ps z => by cases z)).2
      have hzl : ((ks.map (Sum.inr : Str → Key)).zip vs).length = xs.length := by rw [List.length_zip, List.length_map, hl2, Nat.min_self, t.length]
      refine ⟨fun i d e => ⟨⟨ha', by rw [hzl]; exact (List.getElem?_eq_some_iff.mp e).1⟩, fun x H' y => ?_⟩, ⟨ha', by rw [hzl]; exact Nat.le_refl _⟩⟩
      obtain ⟨rfl, k', hk⟩ := y
      refine ⟨Gr.refl T _, ?_⟩
      have hv : vs[i]? = some x := by
        have := congrArg (Option.map Prod.snd) hk
        rw [← List.getElem?_map, map_snd_zip (by rw [List.length_map, hl2])] at this
        exact this
      obtain ⟨d', e1, e2⟩ := t.get hv
      rw [e] at e1
      cases e1
      exact e2.le l
    · exact absurd e hne)⟩
end
end Vk

/-! ## VkMkDict -/
set_option Elab.async false
set_option linter.all false
set_option maxRecDepth 100000
set_option maxHeartbeats 2000000
/-! dict(..) of a list of pairs, of a zip, of a plain tuple of pairs. -/
namespace Vk
open PySem PySem.Spec PyProof.Rows PySem.W L2 LamX StX
section
variable {prog : Program} {w : World} {z TI TO i1 i2 : Addr} {fp1 fp2 : List Addr} {n1 n2 : Nat} {P1 P2 : Nat → Value → Prop} {St1 St2 : Nat → Heap → Prop}
/-- a fresh zip as what dict is made of -/
theorem pairArg_zip (S : ZipSep2 z TI TO i1 i2 fp1 fp2) (D1 : ∀ A : Around, A.handled = none → Draws prog w A i1 fp1 n1 P1 St1) (D2 : ∀ A : Around, A.handled = none → Draws prog w A i2 fp2 n2 P2 St2)
    (e1 : ∀ h, St1 0 h → ∀ b ∈ fp1, ∃ o, h.get? b = some o) (e2 : ∀ h, St2 0 h → ∀ b ∈ fp2, ∃ o, h.get? b = some o) :
    PairArg prog w "zip" z (z :: TI :: TO :: (fp1 ++ fp2)) [z, TO, i1, i2] (min n1 n2) (fun i k v => P1 i k ∧ P2 i v)
      (fun h => IsZip h z TI TO .none ∧ IsTupOf2 h TI (.ref i1) (.ref i2) ∧ (∃ a b, IsTupOf2 h TO a b) ∧ St1 0 h ∧ St2 0 h) where
  type := fun s ok => ⟨_, ok.1, rfl⟩
  notDict := by decide
  keep := fun h h' ok hk => by
    obtain ⟨hz, hTI, ⟨a, b, hTO⟩, h1, h2⟩ := ok
    have hn : ({ frames := none, handled := none, units := 0 } : Around).handled = none := rfl
    exact ⟨hk _ _ hz, hk _ _ hTI, ⟨a, b, hk _ _ hTO⟩, (D1 _ hn).frame _ _ _ h1 fun b _ o e => hk b o e, (D2 _ hn).frame _ _ _ h2 fun b _ o e => hk b o e⟩
  there := fun h ok b hb => by
    obtain ⟨hz, hTI, ⟨a, c, hTO⟩, h1, h2⟩ := ok
    simp only [List.mem_cons, List.mem_append] at hb
    rcases hb with rfl | rfl | rfl | hb | hb
    · exact ⟨_, hz⟩
    · exact ⟨_, hTI⟩
    · exact ⟨_, hTO⟩
    · exact e1 _ h1 _ hb
    · exact e2 _ h2 _ hb
  sub := fun b hb => by
    simp only [List.mem_cons, List.not_mem_nil, or_false] at hb
    simp only [List.mem_cons, List.mem_append]
    rcases hb with rfl | rfl | rfl | rfl
    · exact .inl rfl
    · exact .inr (.inr (.inl rfl))
    · exact .inr (.inr (.inr (.inl S.mem1)))
    · exact .inr (.inr (.inr (.inr S.mem2)))
  noKeys := fun A s Q E hA ok h => getAttrOr_miss_zip ok.1 rfl rfl rfl zip_no_keys (by decide +kernel) hA h
  iter := fun A s d Q E hA ok hd hdf h => by
    obtain ⟨hz, hTI, ⟨a, b, hTO⟩, h1, h2⟩ := ok
    simp only [List.mem_cons, List.mem_append, not_or] at hdf
    obtain ⟨dz, dTI, dTO, d1, d2⟩ := hdf
    have hA1 : A.in1.handled = none := by simp [hA]
    have di1 : d ≠ i1 := fun e => d1 (e ▸ S.mem1)
    have di2 : d ≠ i2 := fun e => d2 (e ▸ S.mem2)
    refine wpAny_pyIter_zip hz (h z [z, TO, i1, i2] (fun i h => ZSt z TI TO i1 i2 St1 St2 i h ∧ ∀ T f, IsZipHeld h z TI TO T f → T ≠ d) s.heap s.toks ?_ ⟨⟨hTI, h1, h2, ⟨_, hTO⟩, .inl ⟨hz, a, b, hTO⟩⟩, fun T f e => ?_⟩ (fun _ _ e => e) fun b hb => .inl hb)
    · exact {
        off := fun hm => by
          simp only [List.mem_cons, List.not_mem_nil, or_false] at hm
          rcases hm with e | e | e | e
          · exact dz e
          · exact dTO e
          · exact di1 e
          · exact di2 e
        frame := fun i h₁ h₂ st hk => by
          obtain ⟨⟨q1, q2, q3, ⟨oT, qO⟩, q4⟩, q5⟩ := st
          have zk : ∀ o, h₁.get? z = some o → h₂.get? z = some o := fun o e => hk _ _ (Ne.symm dz) e
          refine ⟨⟨hk _ _ (Ne.symm dTI) q1, (D1 _ hA1).frame _ _ _ q2 fun b hb o e => hk b o (fun x => d1 (x ▸ hb)) e, (D2 _ hA1).frame _ _ _ q3 fun b hb o e => hk b o (fun x => d2 (x ▸ hb)) e, ⟨_, hk _ _ (Ne.symm dTO) qO⟩, ?_⟩, fun T f e => ?_⟩
          · rcases q4 with ⟨q4, a, b, q6⟩ | ⟨T, f, oT, q4, q6, r1, r2, r3⟩
            · exact .inl ⟨zk _ q4, a, b, hk _ _ (Ne.symm dTO) q6⟩
            · exact .inr ⟨T, f, oT, zk _ q4, hk _ _ (q5 T f q4) q6, r1, r2, r3⟩
          · rcases q4 with ⟨q4, a, b, q6⟩ | ⟨T', f', oT, q4, q6, r1, r2, r3⟩
            · have := e.symm.trans (zk _ q4)
              cases this
            · rw [held_one (zk _ q4) e]; exact q5 _ _ q4
        item := fun i s₁ Q₁ E₁ hi st hds hQ => by
          have hix : i < n1 := Nat.lt_of_lt_of_le hi (Nat.min_le_left ..)
          have hiy : i < n2 := Nat.lt_of_lt_of_le hi (Nat.min_le_right ..)
          refine next_kept S (D1 _ hA1) (D2 _ hA1) st.1 hix hiy fun x1 x2 h' tk p1 p2 st' one ht hsz kp => ?_
          refine hQ s₁.heap.objs.size _ _ h' tk ⟨p1, p2⟩ (.inl ⟨_, ht, rfl, _, rfl⟩) ⟨st', fun T f e => ?_⟩ fun c o hc e => kp c o (fun x => hc (by simp [x])) (fun x => hc (by simp [x])) (fun x => hc (by simp [x])) (fun x => hc (by simp [x])) e
          rcases one T f e with e | ⟨f', e⟩
          · rw [e]; exact Nat.ne_of_gt hds
          · exact st.2 T f' e
        done := fun s₁ Q₁ E₁ st hQ => by
          have : min n1 n2 = n1 ∨ min n1 n2 = n2 := by omega
          exact next_keptEnd S (D1 _ hA1) (D2 _ hA1) st.1 (Nat.min_le_left ..) (Nat.min_le_right ..) this fun h' tk kp => hQ h' tk fun c o hc e => kp c o (fun x => hc (by simp [x])) (fun x => hc (by simp [x])) (fun x => hc (by simp [x])) (fun x => hc (by simp [x])) e }
    · have := e.symm.trans hz
      cases this
end
section
variable {X : Cx} {T : TabL}
theorem kvKs {ks : List Str} {vs : List V} (h : ks.length = vs.length) : (((ks.map (Sum.inr : Str → Key)).zip vs).map (·.1)) = ks.map Sum.inr := by
  rw [List.map_fst_zip (by rw [List.length_map]; exact Nat.le_of_eq h)]
theorem nodup_inr {ks : List Str} (h : ks.Nodup) : (ks.map (Sum.inr : Str → Key)).Nodup := List.Pairwise.map _ (fun _ _ n e => n (Sum.inr.inj e)) h
/-- the dict of the keys ks and the values vs as it is made -/
theorem mergeK_zip {ks : List Str} {vs : List V} (h : ks.length = vs.length) (nd : ks.Nodup) : mergeK [] ((ks.map (Sum.inr : Str → Key)).zip vs) = (ks.map Sum.inr).zip vs := by
  rw [mergeK_nodup _ [] (by rw [List.nil_append, kvKs h]; exact nodup_inr nd), List.nil_append]
def kpair (p : Str × PyData) : PyData := .tuple [.str p.1, p.2]
theorem pairs_at {K : PySem.W.Frag} {H : Hp} : ∀ {us : List V} {ks : List Str} {xs : List PyData}, IsDs K H us ((ks.zip xs).map kpair) → ks.length = xs.length → ∃ (as : List Addr) (vs : List V), us = as.map V.ref ∧ ks.length = vs.length ∧ IsDs K H vs xs ∧ as.length = ks.length ∧
    Paired (fun p (kv : Key × V) => H p = some (.tup [kV kv.1, kv.2])) as ((ks.map Sum.inr).zip vs)
  | _, [], [], h, _ => by cases h; exact ⟨[], [], rfl, rfl, .nil, rfl, .nil⟩
  | _, k :: ks, x :: xs, h, hl => by
    have h' : IsDs K H _ (kpair (k, x) :: (ks.zip xs).map kpair) := h
    cases h' with
    | cons i t =>
      obtain ⟨as, vs, e1, e2, e3, e4, e5⟩ := pairs_at t (Nat.succ.inj hl)
      have i' : IsD K H _ (.tuple [.str k, x]) := i
      cases i' with
      | @tup a us _ ha tt =>
        obtain ⟨v, u, rfl, j1, j2⟩ := isDs_two tt
        cases j1
        exact ⟨a :: as, u :: vs, by rw [e1]; rfl, by rw [List.length_cons, List.length_cons, e2], .cons j2 e3, by rw [List.length_cons, List.length_cons, e4], .cons ha e5⟩
def rDict (R : RE) : RE := fun ρ d => ∃ (ks : List Str) (xs : List PyData), R ρ (.list ((ks.zip xs).map kpair)) ∧ ks.length = xs.length ∧ ks.Nodup ∧ d = .dict ((ks.map PyData.str).zip xs)
theorem dik_new {K : PySem.W.Frag} {H : Hp} {M : List Addr} {p : Addr} {o : Obj} {ks : List Str} {vs : List V} {xs : List PyData} (hp : p ∉ M) (h : H p = none) (hl : ks.length = vs.length) (t : IsDs K (hid H M) vs xs) :
    IsD K (hid (upd (upd H p (.dK ((ks.map Sum.inr).zip vs))) p (.frz o (.dK ((ks.map Sum.inr).zip vs)))) M) (.ref p) (.dict ((ks.map PyData.str).zip xs)) := by
  rw [upd_upd]
  exact .dik (hid_of hp upd_same) hl (t.gr (Gr.upd (T := []) h))
theorem gr_frz {H : Hp} {p : Addr} {u : HO} {o : Obj} (h : H p = none) : Gr T H (upd (upd H p u) p (.frz o u)) := by
  rw [upd_upd]; exact Gr.upd h
theorem de_dictL {a : Expr} {R : RE} {p pos : Pos} {x : Str} (hc : X.calm = true) (hg : Gl X x) (hm : X.mg x = none) (hv : bootBuiltins x = some (.type "dict")) (ha : DE X T a R) (hn : x ≠ "__name__" := by decide) (hdb : (x == ("__debug__" : Str)) = false := by decide)
    (he : starEach [a] X.env = (false, eval a X.env) :: starEach [] X.env := by rfl) (hpl : (backTo pos (starEach [] X.env)).any (·.1) = false := by rfl) : DE X T (.Call (.Name x p) [a] [] pos) (rDict R) :=
  pe_weak (pe_frz (pe_callTy (call_dictP hc) hg hm hv (pa_cons ha pa_nil he) hn hdb he hpl)) fun σ H Q ⟨ρ, d, M, S, ⟨ks, xs, r, hl, nd, ed⟩, k⟩ => by
    subst ed
    refine tD1 S r fun v H1 g i => ?_
    cases i with
    | @lst b us _ hb t =>
      obtain ⟨as, vs, e1, e2, e3, e4, e5⟩ := pairs_at t hl
      subst e1
      refine ⟨b, as, (ks.map Sum.inr).zip vs, rfl, SqL.of (hid_some hb).2, Paired.mapP e5 fun _ _ z => SqT.of (hid_some z).2, fun q hq => ⟨q, _, rfl, upd_same, trivial, fun od => ?_⟩⟩
      rw [mergeK_zip e2 nd]
      exact k _ _ (g.trans (gr_frz hq)) (dik_new ((S.gr g).fresh hq) hq e2 e3)
/-- dict(zip(ks, xs)) -/
def rDictZip (R R' : RE) : RE := fun ρ z => ∃ (d e : PyData) (ks : List Str) (xs : List PyData), R ρ d ∧ R' ρ e ∧ seqOf d = some (ks.map PyData.str) ∧ seqOf e = some xs ∧ ks.length = xs.length ∧ ks.Nodup ∧ ks.length ≤ 1000000 ∧ z = .dict ((ks.map PyData.str).zip xs)
theorem kv_rel : ∀ {ks : List Str} {vs : List V} {us : List Value}, Vals vs us → ks.length = vs.length → KV ((ks.map (Sum.inr : Str → Key)).zip vs) ((ks.map Sum.inr).zip us)
  | [], _, _, .nil, _ => .nil
  | [], _, _, .cons _ _, h => by cases h
  | k :: ks, _, _, .nil, h => by cases h
  | k :: ks, _, _, .cons r t, h => .cons ⟨rfl, r⟩ (kv_rel t (Nat.succ.inj h))
theorem de_dictZip {e1 e2 : Expr} {R R' : RE} {p p2 q pos : Pos} (hc : X.calm = true) (hg : Gl X "dict") (hm : X.mg "dict" = none) (hg2 : Gl X "zip") (hm2 : X.mg "zip" = none) (h1 : DE X T e1 R) (h2 : DE X T e2 R')
    (na : starEach [e1, e2] X.env = (false, eval e1 X.env) :: starEach [e2] X.env := by rfl) (nb : starEach [e2] X.env = (false, eval e2 X.env) :: starEach [] X.env := by rfl) (hpl : (backTo q (starEach [e2] X.env)).any (·.1) = false := by rfl) :
    DE X T (.Call (.Name "dict" p) [.Call (.Name "zip" p2) [e1, e2] [] q] [] pos) (rDictZip R R') := by
  refine ⟨fun pins s σ H Q I h => ?_⟩
  obtain ⟨ρ, z, M, S, ⟨d, e, ks, ys, r1, r2, es1, es2, hl, nd, hsz', ez⟩, k⟩ := h
  subst ez
  refine Call_ (ld_blt I hg hm PyProof.Rows.boot_dict ?_)
  refine PyProof.Rows.callWith_type1 (PyProof.Rows.args_cons ?_ rfl) rfl rfl
  refine Call_ (ld_blt I hg2 hm2 PyProof.Rows.boot_zip ?_)
  refine PyProof.Rows.callWith_type1 (thn ((pa_cons h1 (pa_cons h2 pa_nil nb) na).run q pins s σ H (fun vs H1 => ∃ v w, vs = [v, w] ∧ Gr T H H1 ∧ IsD X.K (hid H1 M) v d ∧ IsD X.K (hid H1 M) w e) I ?_) fun us s1 ⟨vs, H1, I1, rv, v, w, ev, g1, i1, i2⟩ => ?_) na hpl
  · exact tD2 S r1 r2 fun v u H' g j1 j2 => ⟨v, u, rfl, g, j1, j2⟩
  subst ev
  obtain ⟨u1, u2, rfl, ra, rb⟩ := rv.two
  obtain ⟨l1, vs1, rfl, hq1, t1⟩ := seq_parts i1 es1
  obtain ⟨l2, vs2, rfl, hq2, t2⟩ := seq_parts i2 es2
  cases ra
  cases rb
  obtain ⟨its1, rv1, pl1⟩ := seq_raw I1 hq1
  obtain ⟨its2, rv2, pl2⟩ := seq_raw I1 hq2
  have S1 := S.gr g1
  have hh := I1.ok.hd hc
  obtain ⟨o1, Hs1, St1, B1, b1, D1, z1, there1⟩ := src_of pl1
  obtain ⟨o2, Hs2, St2, B2, b2, D2, z2, there2⟩ := src_of pl2
  have lt1 := seq_lt pl1
  have lt2 := seq_lt pl2
  have hlen1 := t1.length
  have hlen2 := t2.length
  have hv1 := rv1.length
  have hv2 := rv2.length
  rw [List.length_map] at hlen1
  have hst : StrsAre its1 ks := by
    rw [t1.strs] at rv1
    exact strsAre_of rv1
  refine zip_begins2 B1 B2 b1 b2 fun h' hz hTI hTO g1' g2' hsz hk => PyProof.Rows.args_nil ?_
  have SP := zip_sep2 (N := s1.heap.objs.size) (fp1 := [l1]) (fp2 := [l2]) (fun b hb => by rw [List.mem_singleton.mp hb]; exact lt1) (fun b hb => by rw [List.mem_singleton.mp hb]; exact lt2)
  have off : ∀ n m : Nat, n < m → (n : Nat) ≠ m + 1 := fun n m h e => by omega
  have PA := pairArg_zip (prog := X.prog) (w := X.w) SP (fun A hA => D1 s1.heap.objs.size X.prog X.w A (Nat.ne_of_lt lt1) hA) (fun A hA => D2 (s1.heap.objs.size + 1) X.prog X.w A (off _ _ lt2) hA) (fun h st => there1 _ 0 h st) (fun h st => there2 _ 0 h st)
  have hmin : min its1.toArray.size its2.toArray.size = ks.length := by rw [List.size_toArray, List.size_toArray]; omega
  refine PySem.call_dict_pairs (s := { s1 with heap := h' }) (knd := mixKind X.prog X.w) (kvs := (ks.map Sum.inr).zip its2) PA hh ⟨hz, hTI, ⟨_, _, hTO⟩, z1 _ _ g1' hk, z2 _ _ g2' hk⟩ ⟨?_, fun i key v ⟨pk, pv⟩ => ?_⟩ (by rw [hmin, sizeLine_eq]; omega) fun h'' tk hd kp => ?_
  · rw [hmin, List.length_zip, List.length_map]; omega
  · obtain ⟨x, t, hx, rfl⟩ := strs_get hst (by simpa using pk)
    refine ⟨.inr x, ?_, PySem.Froz.is_str (P := X.prog) (w := X.w) x t⟩
    have hv : its2[i]? = some v := by simpa using pv
    rw [List.getElem?_zip_eq_some]
    exact ⟨by rw [List.getElem?_map, hx]; rfl, hv⟩
  · have kall : ∀ b o, s1.heap.get? b = some o → h''.get? b = some o := fun b o e => by
      have hb : b < s1.heap.objs.size := Heap.lt_size e
      refine kp b o (fun hm => ?_) (hk b o e)
      simp only [List.mem_cons, List.not_mem_nil, or_false] at hm
      rcases hm with q | q | q | q
      · rw [q] at hb; exact absurd hb (Nat.not_lt.mpr (Nat.le_add_right _ _))
      · rw [q] at hb; exact absurd hb (Nat.not_lt.mpr (Nat.le_add_right _ _))
      · rw [q] at hb; exact absurd hb (Nat.lt_irrefl _)
      · rw [q] at hb; exact absurd hb (Nat.not_lt.mpr (Nat.le_add_right _ _))
    have I3 : Inv X pins σ H1 { s1 with heap := h'', toks := tk } := I1.kept kall
    have hN : s1.heap.objs.size ≤ h'.objs.size := by rw [hsz]; exact Nat.le_add_right _ _
    have hLn : H1 h'.objs.size = none := I1.hok.fresh hN
    have hlv : ks.length = vs2.length := by rw [hl, hlen2]
    have kv := KV.merge (kv_rel (ks := ks) rv2 hlv) (.nil : KV ([] : List (Key × V)) [])
    rw [mergeK_zip hlv nd] at kv
    have I4 : Inv X pins σ (upd H1 h'.objs.size (.dK ((ks.map Sum.inr).zip vs2))) { s1 with heap := h'', toks := tk } := by
      refine I3.take (h' := h'') (t' := tk) (fun b ob _ e => e) (I1.fpOk hN hLn) (show ObjOk X.prog X.w _ _ _ (.dK _) from ⟨?_, ?_, _, kv, hd⟩)
      · rw [List.length_zip, List.length_map, sizeLine_eq]; omega
      · exact beq_eq_false_iff_ne.mpr (Nat.ne_of_gt (Nat.lt_of_lt_of_le I1.big hN))
    obtain ⟨od, I5⟩ := I4.lock upd_same trivial
    exact ⟨.ref h'.objs.size, _, I5, rfl, k _ _ (g1.trans (gr_frz hLn)) (dik_new (S1.fresh hLn) hLn hlv t2)⟩
end
end Vk

/-! ## VkItems -/
set_option Elab.async false
set_option linter.all false
set_option maxRecDepth 100000
set_option maxHeartbeats 2000000
/-! for k, v in d.items(), d a dict with tuple keys. -/
namespace Vk
open PySem PySem.Spec PyProof.Rows PySem.W L2 LamX StX
section
variable {X : Cx} {pins : List (Addr × Obj)} {σ : L2.St} {H : Hp} {s : Shared} {d : Addr} {o : Obj}
/-- the entries of a locked dict with tuple keys -/
theorem frzTV {kvs : List (List Key × V)} (I : Inv X pins σ H s) (h : H d = some (.frz o (.dT kvs))) :
    (d == sysModules) = false ∧ s.heap.get? d = some o ∧ o.ExactDict ∧ ∃ (es : Array DictEntry) (ep : Nat), o.data = .dict es ep ∧ es.size = kvs.length ∧
      ∀ (i : Nat) (k : List Key) (v : V), kvs[i]? = some (k, v) → ∃ (en : DictEntry) (q : Addr), es[i]? = some en ∧ en.key = .ref q ∧ H q = some (.tup (k.map kV)) ∧ RelV v en.val := by
  obtain ⟨hd, z, hs, xs, pr, o', es, ep, ho, hx, hdt, he, _⟩ := I.hok d _ h
  rw [hd] at ho
  cases ho
  refine ⟨hs, hd, hx, es, ep, hdt, ?_, fun i k v e => ?_⟩
  · have l1 : es.size = xs.length := size_of_entries he
    have l2 : kvs.length = xs.length := Paired.length pr
    omega
  · obtain ⟨b, hb, e1, e2, e3⟩ := paired_get pr e
    have q := entry_at he i
    rw [hb] at q
    exact ⟨_, b.2.1, q, rfl, e2, e3⟩
end
/-- the pairs, each a new tuple -/
def ItiT (d : Addr) (o : Obj) (kvs : List (List Key × V)) : It :=
  ⟨fun i H => H d = some (.frz o (.dT kvs)) ∧ i < kvs.length, fun i H x H' => ∃ T k v q, kvs[i]? = some (k, v) ∧ x = .ref T ∧ H T = none ∧ H q = some (.tup (k.map kV)) ∧ H' = upd H T (.tup [.ref q, v]), fun i H => H d = some (.frz o (.dT kvs)) ∧ kvs.length ≤ i⟩
theorem turn_itemsT {P : Program} {w : World} {K : PySem.W.Frag} {d : Addr} {o : Obj} {es : Array DictEntry} {ep : Nat} {kvs : List (List Key × V)} {elts : List Expr} {kk : Nat} {tpos : Pos} (it : Addr) (hod : o.data = .dict es ep) (hdi : d ≠ it) :
    Turn P w K (.Tuple elts kk tpos) (ItiT d o kvs) [it] it (fun i h => ∃ ok ov, IsItemIter h it d i kvs.length ep ok ov) where
  mem := by simp
  obj := fun i h st b hb => by
    have e : b = it := by simpa using hb
    subst e
    obtain ⟨ok, ov, e⟩ := st
    exact ⟨_, e, fun v z => nomatch z⟩
  keep := fun i h h' st k => let ⟨ok, ov, e⟩ := st; ⟨ok, ov, k it (by simp) _ e⟩
  item := by
    intro X hP hw hK hc i pins s σ H E I hf st hg
    subst hP hw hK
    obtain ⟨hd, hi⟩ := hg
    obtain ⟨hs, hgd, hx, es', ep', hdt, hsz, ent⟩ := frzTV I hd
    obtain ⟨rfl, rfl⟩ := dict_ep hod hdt
    obtain ⟨⟨k, v⟩, hkv⟩ : ∃ p, kvs[i]? = some p := ⟨kvs[i], List.getElem?_eq_getElem hi⟩
    obtain ⟨en, q, hen, hkey, hq, rv⟩ := ent i k v hkv
    obtain ⟨ok, ov, he⟩ := st
    rw [← hsz] at he
    have hlt : it < s.heap.objs.size := Heap.lt_size he
    have hil : i < es'.size := by rw [hsz]; exact hi
    have een : es'[i] = en := by
      rw [Array.getElem?_eq_getElem hil] at hen
      exact Option.some.inj hen
    refine DT.nextI he ⟨o, hgd, hx, hdt⟩ hil fun h' ho hT hz hk => ?_
    rw [een] at ho hT
    refine ⟨_, rfl, wpAny_letOwnedTupleGo_items (s := { s with heap := h' }) ho fun h'' he' sb => ?_⟩
    have hT2 : h''.get? s.heap.objs.size = some { cls := .type "tuple", data := .seq #[en.key, en.val] } := (sb.2 _ (Nat.ne_of_gt hlt)).trans hT
    have new : ObjOk X.prog X.w (upd H s.heap.objs.size (.tup [.ref q, v])) h'' s.heap.objs.size (.tup [.ref q, v]) :=
      ⟨by show 2 ≤ sizeLine; decide, [en.key, en.val], .cons (show RelV (.ref q) en.key from hkey) (.cons rv .nil), ⟨_, hT2, rfl, _, rfl⟩⟩
    have I1 : Inv X pins σ (upd H s.heap.objs.size (.tup [.ref q, v])) { s with heap := h'' } :=
      I.turnedNew (t' := s.toks) (ch := [it]) (fun b ob hb e => (sb.2 b (by simpa using hb)).trans (hk b ob (by simpa using hb) e)) hf (Nat.le_refl _) new
    refine ⟨.ref s.heap.objs.size, _, I1, rfl, ⟨_, k, v, q, hkv, rfl, I.hok.fresh (Nat.le_refl _), hq, rfl⟩, ⟨en.key, en.val, ?_⟩, fun b hb => ?_⟩
    · rw [← hsz]; exact he'
    · have e : b = it := by simpa using hb
      rw [e, upd_ne (Nat.ne_of_lt hlt)]
      exact (hf it (by simp)).1
  done := by
    intro X hP hw hK hc i pins s σ H E I hf st hg
    subst hP hw hK
    obtain ⟨hd, hi⟩ := hg
    obtain ⟨f0, f1, f2, f3, f4, f5⟩ := hf it (by simp)
    obtain ⟨hs, hgd, hx, es', ep', hdt, hsz, ent⟩ := frzTV I hd
    obtain ⟨rfl, rfl⟩ := dict_ep hod hdt
    obtain ⟨ok, ov, he⟩ := st
    rw [← hsz] at he
    exact DT.endI (I.ok.hd hc) he ⟨o, hgd, hx, hdt⟩ (by rw [hsz]; exact hi) fun h' eb => ⟨rfl, I.turned (t' := s.toks) (fun b ob hb e => eb b ob hb e) f0 f1 f3 f4 f5⟩
  self := fun A i s Q E st h => let ⟨_, _, e⟩ := st; PySem.W.kcp_self e h
def iItemsT (td : TE) : TI := fun σ H R => td σ H fun x H1 => ∃ d o kvs, x = .ref d ∧ H1 d = some (.frz o (.dT kvs)) ∧ R (ItiT d o kvs) H1
theorem pi_itemsT {X : Cx} {e : Expr} {td : TE} {apos cpos tpos : Pos} {elts : List Expr} {kk : Nat} (he : PE X e td) (hbase : attributeBase e "items" X.env (eval e X.env) = eval e X.env := by rfl) (hline : (apos.endLine == cpos.line) = true := by rfl) :
    PI X (.Tuple elts kk tpos) (.Call (.Attribute e "items" apos) [] [] cpos) (iItemsT td) := by
  refine ⟨fun pins s σ H R I h => ?_⟩
  refine wpAny_Call_method (T := "dict") (id := "dict.items") hbase rfl hline PySem.F.plainAttrs_dict PySem.F.slot_dict_items PySem.F.type_dict_items (thn (he.run pins s σ H _ I h) fun u s1 ⟨x, H1, I1, rx, d, o, kvs, ex, hd, q⟩ => ?_)
  subst ex
  obtain rfl : u = Value.ref d := rx
  obtain ⟨hs, hgd, hx, es, ep, hdt, hsz, _⟩ := frzTV I1 hd
  have raw : DT.Raw s1.heap d es ep := ⟨o, hgd, hx, hdt⟩
  refine ⟨raw.typeIs, fun b eb => ?_, ?_⟩
  · cases eb
    exact ⟨o, hgd, hx.2.1⟩
  have I2 : Inv X pins σ H1 { s1 with heap := s1.heap.push { cls := .type "dict_items", data := .fields #[.ref d] } } := I1.kept (t' := s1.toks) fun b ob q => Heap.get?_push_of_some _ q
  have hdl : d < s1.heap.objs.size := Heap.lt_size hgd
  have fin : wpAny (model X.prog X.w) X.A (pyIter (.ref s1.heap.objs.size)) (PIE X pins σ (.Tuple elts kk tpos) R) X.xe { s1 with heap := s1.heap.push { cls := .type "dict_items", data := .fields #[.ref d] } } := by
    refine DT.iterI (s := { s1 with heap := s1.heap.push { cls := .type "dict_items", data := .fields #[.ref d] } }) (es := es) (ep := ep) ⟨_, Heap.get?_push_size _ rfl, rfl, rfl⟩ (raw.push _) (pi_one (tk := s1.toks) I2 _ (turn_itemsT _ hdt ?_) ⟨.none, .none, ?_⟩ q)
    · show d ≠ (s1.heap.push _).objs.size
      rw [Heap.size_push]
      exact Nat.ne_of_lt (Nat.lt_succ_of_lt hdl)
    · rw [← hsz]
      exact Heap.get?_push_size _ rfl
  show wpAny _ _ (callWith cpos (.builtin "dict.items") [.ref d] [] []) _ X.xe s1
  exact method_meetsIn PySem.F.slot_dict_items PySem.F.entry_dict_items rfl (PySem.evalArgs_none ⟨rfl, raw.typeIs, PySem.F.args_dict_items_1 _, _, DT.meetsItems (es := es) (ep := ep) hs, raw, fin⟩)
section
variable {X : Cx} {T : TabL}
def rItems (R : RE) : RA := fun ρ xs => ∃ ps : List (List Str × Bool), R ρ (.dict (ps.map fun p => (dS p.1, PyData.bool p.2))) ∧ ps ≠ [] ∧ ps.length ≤ 1000000 ∧ xs = ps.map fun p => .tuple [dS p.1, .bool p.2]
theorem di_items {e : Expr} {R : RE} {apos cpos tpos : Pos} {elts : List Expr} {kk : Nat} (h : DE X T e R) (hbase : attributeBase e "items" X.env (eval e X.env) = eval e X.env := by rfl) (hline : (apos.endLine == cpos.line) = true := by rfl) : DI X T (.Tuple elts kk tpos) (.Call (.Attribute e "items" apos) [] [] cpos) (rItems R) :=
  ⟨fun pins s σ H J I q => (pi_itemsT h hbase hline).run pins s σ H J I (by
    obtain ⟨ρ, xs, M, S, ⟨ps, r, hne, hz, ex⟩, k⟩ := q
    subst ex
    refine tD1 S r fun v H1 g i => ?_
    obtain ⟨a, o, rfl, ha⟩ := dit_of i hne
    refine ⟨a, o, _, rfl, (hid_some ha).2, k _ H1 g (by rw [List.length_map]; exact line_of hz) fun H M' mk l => ?_⟩
    have ha' : H a = some (.frz o (.dT (ps.map fun p => (p.1.map Sum.inr, V.bl p.2)))) := (hid_some (l _ _ ha fun ps z => by cases z)).2
    refine ⟨fun i d e => ⟨⟨ha', by have := (List.getElem?_eq_some_iff.mp e).1; rw [List.length_map] at this ⊢; exact this⟩, fun x H' y => ?_⟩, ⟨ha', by rw [List.length_map, List.length_map]; exact Nat.le_refl _⟩⟩
    obtain ⟨t, k', w, c, hk, rfl, ht, hc, rfl⟩ := y
    rw [List.getElem?_map] at hk e
    cases hp : ps[i]? with
    | none => rw [hp] at hk; cases hk
    | some p =>
      rw [hp] at hk e
      cases hk
      cases e
      have htM : t ∉ M' := msk_fresh mk ht
      refine ⟨Gr.upd ht, new_tup htM ht (.cons ?_ (.cons (.bl _) .nil))⟩
      rw [kVs_texts] at hc
      have hcM : c ∉ M' := fun z => by
        obtain ⟨o', e', n⟩ := mk c z
        rw [hc] at e'
        cases e'
        exact n.2 _ rfl
      exact .tup (hid_of hcM hc) (IsDs.of_strs p.1))⟩
end
/-! ### {k: v for ..}, the keys tuples -/
theorem set_tupKey {X : Cx} {pins : List (Addr × Obj)} {σ : L2.St} {H : Hp} {s : Shared} {E : Value → Shared → Prop} {D b : Addr} {kvs : List (List Key × V)} {k : List Key} {v : V} {r : Value} {Q : Unit → Shared → Prop} (hu : X.A.units + 1 < cLine) (I : Inv X pins σ H s) (hD : H D = some (.dT kvs)) (hb : H b = some (.tup (k.map kV)))
    (hz : kvs.length < sizeLine) (rv : RelV v r) (h : ∀ s', Inv X pins σ (upd H D (.dT (putK kvs k v))) s' → Q () s') : wpAny (model X.prog X.w) X.A (dictSet D (.ref b) r) Q E s := by
  obtain ⟨z, hd, xs, rel, dd⟩ := dt_of I.hok hD
  have hzx : xs.length ≤ sizeLine := by rw [← Paired.length rel]; exact z
  have hl : (putK kvs k v).length ≤ sizeLine := by have := length_putK kvs k v; omega
  refine wpAny_dictSet_heap (hsz := hzx) (show X.A.units < cLine by omega) (key_of I.hok hb) dd fun h' dd' hs => h _ ?_
  obtain ⟨q, es, ep, hq, h2, h3, h4, _, h5⟩ := dd'
  refine d_write I (by rw [hD]; exact True.intro) hs ⟨q, hq⟩ ⟨hl, hd, _, (rel.put k hb rv).keeps fun c ys ec => ?_, q, es, ep, hq, h2, h3, h4, h5⟩
  rw [upd_ne (ne_of ec hD (fun z => nomatch z))]
  exact ec
def tDcT (wi : TI) (g : TG) (tk tv : TE) (vs : List Nat) : TE := fun σ H Q => wi σ H fun J H1 => ∀ D, H1 D = none → LoopF J (fun x H' Nx => g x (wipe σ vs) H' fun σ2 H2 => wipe σ2 vs = wipe σ vs ∧
  tk σ2 H2 fun y H4 => tv σ2 H4 fun z H5 => ∃ kvs k b, y = .ref b ∧ H5 b = some (.tup (k.map kV)) ∧ H5 D = some (.dT kvs) ∧ kvs.length < sizeLine ∧ Nx (upd H5 D (.dT (putK kvs k z)))) (Q (.ref D)) (upd H1 D (.dT []))
section
variable {X : Cx}
theorem pe_dcT {kx vx tg iter : Expr} {scope : Scope} {own : List (Str × Nat)} {pos : Pos} {wi : TI} {g : TG} {tk tv : TE} (hc : X.calm = true) (hu : X.A.units + 65 < cLine) (hN : X.N.Nodup) (hi : PI X tg iter wi) (ok : BlkOk X.N X.env.scope scope own)
    (hg : ∀ (s : Shared) (H : Hp) (C : Addr) (cl : List (Str × Addr)) (fp : List Addr), PG (X.blk s H scope (compEnvC scope cl C X.env) fp) tg g)
    (hk : ∀ (s : Shared) (H : Hp) (C : Addr) (cl : List (Str × Addr)) (fp : List Addr), PE (X.blk s H scope (compEnvC scope cl C X.env) fp) kx tk)
    (he : ∀ (s : Shared) (H : Hp) (C : Addr) (cl : List (Str × Addr)) (fp : List Addr), PE (X.blk s H scope (compEnvC scope cl C X.env) fp) vx tv) (hs : ∀ x, foldedSetIterable iter X.env x = pure x := by intro _; rfl) :
    PE X (.DictComp kx vx [⟨tg, iter, [], 0⟩] scope pos) (tDcT wi g tk tv (own.map (·.2))) := by
  refine ⟨fun pins s σ H Q I h => ?_⟩
  rw [arm_eval_DictComp]
  have hfree : ∀ y ∈ scope.names, y.2 = .free → ∃ c, X.env.cells.lookup y.1 = some c := fun y hy e => I.ok.has _ (ok.free y hy e)
  refine wpAny_comprehension_free (use := none) rfl hs (closure_ok hfree) ok.kind (fun y hy e => by rw [ok.uniq y hy, e])
    (thn (hi.run pins s σ H _ I h) fun xv s1 hx => thn hx fun itv s2 h2 => ?_)
  obtain ⟨it, fp, tn, J, H2, e, I2, TT, st2, f2, q⟩ := h2
  subst e
  refine wpAny_newObj_type (newEnv_comp ?_)
  generalize hD : s2.heap.objs.size = D
  have hDn : H2 D = none := I2.hok.fresh (Nat.le_of_eq hD)
  obtain ⟨W, ⟨m0, w0⟩, turn⟩ := q D hDn
  generalize hs3 : ({ s2 with heap := s2.heap.push { cls := .type "dict", data := .dict #[] } } : Shared) = s3
  have h3 : s3.heap = s2.heap.push { cls := .type "dict", data := .dict #[] } := by rw [← hs3]
  generalize hH3 : upd H2 D (.dT []) = H3 at w0
  have I3 : Inv X pins σ H3 s3 := by
    rw [← hs3, ← hH3]
    refine I2.laid (t' := s2.toks) (fun b o e => Heap.get?_push_of_some _ e) (Nat.le_of_eq hD) ?_
    rw [← hD]
    exact dt_empty s2.heap I2.big
  have f3 : ∀ b ∈ fp, FpOk X pins H3 b ∧ b < s3.heap.objs.size := fun b hb => by
    obtain ⟨o, eo, _⟩ := TT.obj _ _ st2 b hb
    have hlt := Heap.lt_size eo
    refine ⟨⟨?_, (f2 b hb).2⟩, by rw [h3, Heap.size_push]; exact Nat.lt_succ_of_lt hlt⟩
    rw [← hH3, upd_ne (by rw [← hD]; exact Nat.ne_of_lt hlt)]
    exact (f2 b hb).1
  have st3 : tn 0 s3.heap := TT.keep _ _ _ st2 fun b _ o e => by rw [h3]; exact Heap.get?_push_of_some _ e
  have I4 := block_start I3 ok hN f3
  have pg := hg s3 H3 s3.heap.objs.size (cellsFrom (s3.heap.objs.size + 1) scope.names (cloFrom X.env.cells scope.names [])) fp
  have pk := hk s3 H3 s3.heap.objs.size (cellsFrom (s3.heap.objs.size + 1) scope.names (cloFrom X.env.cells scope.names [])) fp
  have pe := he s3 H3 s3.heap.objs.size (cellsFrom (s3.heap.objs.size + 1) scope.names (cloFrom X.env.cells scope.names [])) fp
  have nfp : ∀ b ∈ fp, H3 b = none := fun b hb => (f3 b hb).1.1
  show codeAny _ _ (.compStart (.DictComp kx vx [⟨tg, iter, [], 0⟩] scope pos) 0 (.ref it) (.ref D) (compEnvC scope (cellsFrom (s3.heap.objs.size + 1) scope.names (cloFrom X.env.cells scope.names [])) s3.heap.objs.size X.env))
    (compPost (model X.prog X.w) X.A X.xe none (EP X pins σ Q) (.ref D) s3.heap.objs.size) { s3 with heap := pushCells (s3.heap.push { cls := .type "dict", data := .dict #[] }) scope.names }
  generalize hce : compEnvC scope (cellsFrom (s3.heap.objs.size + 1) scope.names (cloFrom X.env.cells scope.names [])) s3.heap.objs.size X.env = ce at I4 pg pk pe ⊢
  have cL : ce.locals = s3.heap.objs.size := by subst hce; rfl
  generalize hs4 : ({ s3 with heap := pushCells (s3.heap.push { cls := .type "dict", data := .dict #[] }) scope.names } : Shared) = s4 at I4 ⊢
  have st4 : tn 0 s4.heap := TT.keep _ _ _ st3 fun b _ o e => by rw [← hs4]; exact pushCells_keeps _ _ _ _ (Heap.get?_push_of_some _ e)
  have stat : ∀ {σ' : L2.St} {H' : Hp} {s' : Shared}, Inv (X.blk s3 H3 scope ce fp) [] σ' H' s' → (∀ b ∈ fp, H' b = none) → ∀ b ∈ fp, FpOk (X.blk s3 H3 scope ce fp) [] H' b := fun {σ' H' s'} I' hn b hb =>
    ⟨hn b hb, (I'.ok.exf b hb).1, I'.ok.exfs b hb, .inl hb, fun x c e => (I'.ok.exf b hb).2 x c e, fun p hp => absurd (show p ∈ ([] : List (Addr × Obj)) ++ [] from hp) (by simp)⟩
  have loop : codeAny (model X.prog X.w) X.A (.compLoop (.DictComp kx vx [⟨tg, iter, [], 0⟩] scope pos) 0 (.ref it) (.ref D) ce) (compPost (model X.prog X.w) X.A X.xe none (EP X pins σ Q) (.ref D) s3.heap.objs.size) s4 := by
    refine compLoop_anyD (fun n s' => ∃ i H', Inv (X.blk s3 H3 scope ce fp) [] (wipe σ (own.map (·.2))) H' s' ∧ tn i s'.heap ∧ (∀ b ∈ fp, H' b = none) ∧ W i n H') ?_ m0 ⟨0, H3, I4, st4, nfp, w0⟩
    rintro n s5 ⟨i, H5, I5, st5, n5, w5⟩
    rcases turn i n H5 w5 with ⟨stop, qq⟩ | ⟨go, Nx, hNx, step⟩
    · refine thnF (TT.done (X.blk s3 H3 scope ce fp) rfl rfl rfl hc i [] s5 _ H5 (fun _ _ => False) I5 (stat I5 n5) st5 stop) fun r s6 ⟨hr, I6⟩ => ?_
      subst hr
      have I7 : Inv X pins σ H5 s6 := I3.call' (ch := fp) I6.os I6.base I6.hok I6.bare fun b hb => ⟨(f3 b hb).1.2.2.2.1, (f3 b hb).1.2.1, (f3 b hb).1.2.2.2.2.1, (f3 b hb).1.2.2.2.2.2⟩
      have nC : H5 s3.heap.objs.size = none := by
        have z : H5 ce.locals = none := I6.free
        rwa [cL] at z
      obtain ⟨m, hn, _⟩ := I6.loc
      have hn : s6.heap.Ns ce.locals m := hn
      rw [cL] at hn
      obtain ⟨f0, f1, f2', f3', f4, f5⟩ := I3.fpOk (Nat.le_refl _) nC
      exact ⟨m, hn, fun h'' sb => ⟨.ref D, H5, I7.turned (t' := s6.toks) (fun b o hb e => (sb.2 b hb).trans e) f0 f1 f3' f4 f5, rfl, qq⟩⟩
    · refine thnF (TT.item (X.blk s3 H3 scope ce fp) rfl rfl rfl hc i [] s5 _ H5 (fun _ _ => False) I5 (stat I5 n5) st5 go) fun r s6 ⟨u, hr, h6⟩ => ?_
      subst hr
      refine thnF h6 fun _ s7 ⟨x, H7, I7, r7, y7, st7, n7⟩ => ?_
      have I7' := I7.pinned (stat I7 n7) (TT.obj _ _ st7)
      refine thnF (pg.run _ s7 _ H7 x u _ I7' r7 (step x H7 y7)) fun _ s8 ⟨σ8, H8, I8, hw8, q8⟩ => ?_
      refine thnF ((pts_nil (X := X.blk s3 H3 scope ce fp)).run _ s8 σ8 H8 (fun b H' => b = true ∧ H' = H8) I8 ⟨rfl, rfl⟩) fun b s9 ⟨H9, I9, eb, eH⟩ => ?_
      subst eb
      subst eH
      have fin : ∀ {s' : Shared} {H' : Hp}, Inv (X.blk s3 H3 scope ce fp) ([] ++ pinsAt fp s7.heap) σ8 H' s' → Nx H' → ∃ m, m < n ∧ ∃ i H', Inv (X.blk s3 H3 scope ce fp) [] (wipe σ (own.map (·.2))) H' s' ∧ tn i s'.heap ∧ (∀ b ∈ fp, H' b = none) ∧ W i m H' := fun {s' H'} I' nx => by
        obtain ⟨m', hm, w'⟩ := hNx H' nx
        have pin' : ∀ b ∈ fp, ∀ o, s7.heap.get? b = some o → s'.heap.get? b = some o ∧ H' b = none := fun b hb o e =>
          let z := I'.pin (b, o) (List.mem_append_right _ (List.mem_append_right _ (mem_pinsAt hb e)))
          ⟨z.1, z.2.1⟩
        have hl : (wipe σ (own.map (·.2))).length = σ8.length := by rw [← hw8, wipe_length]
        refine ⟨m', hm, i + 1, H', (I'.unpinned (pins := [])).weak hl (fun j v e => ?_), TT.keep _ _ _ st7 fun b hb o e => (pin' b hb o e).1, fun b hb => ?_, w'⟩
        · rw [← hw8] at e
          exact (wipe_some e).1
        · obtain ⟨o, e, _⟩ := TT.obj _ _ st7 b hb
          exact (pin' b hb o e).2
      simp only [if_true]
      refine thnF (pk.run _ s9 σ8 H9 _ I9 q8) fun z s10 ⟨yk, H10, I10, r10, q10⟩ => ?_
      refine thnF (pe.run _ s10 σ8 H10 _ I10 q10) fun z2 s11 ⟨yv, H11, I11, r11, kvs, k, b, ek, hb, hD11, hz11, nx⟩ => ?_
      subst ek
      cases (show z = Value.ref b from r10)
      exact set_tupKey (X := X.blk s3 H3 scope ce fp) (by show X.A.units + 1 < cLine; omega) I11 hD11 hb hz11 r11 fun s12 I12 => fin I12 nx
  exact codeAny_compStart_dict loop (TT.self X.A 0 _ _ _ st4 loop)
end
end Vk

/-! ## VkDcD -/
set_option Elab.async false
set_option linter.all false
set_option maxRecDepth 100000
set_option maxHeartbeats 2000000
/-! {k: v for ..} with tuple keys, over data; texts walked; counting; isinstance; ranges. -/
namespace Vk
open PySem PySem.Spec PyProof.Rows PySem.W L2 LamX StX
theorem tabs_dT {T : TabL} {H : Hp} {D : Addr} {xs : List (List Key × V)} {o : HO} (h : H D = some (.dT xs)) (t : Tabs T H) : Tabs T (upd H D o) := fun p hp => by
  obtain ⟨ps, h1, h2, h3⟩ := t p hp
  have n1 : p.1 ≠ D := fun z => by rw [z, h] at h1; cases h1
  refine ⟨ps, by rw [upd_ne n1]; exact h1, h2, fun pos cv hc => ?_⟩
  obtain ⟨c, e1, e2⟩ := h3 pos cv hc
  have n2 : c ≠ D := fun z => by rw [z, h] at e2; unfold CodeO at e2; cases e2
  exact ⟨c, e1, by rw [upd_ne n2]; exact e2⟩
abbrev tbK (p : List Str × Bool) : List Key × V := (p.1.map Sum.inr, V.bl p.2)
abbrev tbD (p : List Str × Bool) : PyData × PyData := (dS p.1, PyData.bool p.2)
def rDcT (own : List Nat) (I : RA) (b : Bn) (R R' : RE) : RE := fun ρ z => ∃ (ds : List PyData) (ps : List (List Str × Bool)), I ρ ds ∧ ds.length = ps.length ∧ ps.length ≤ 1000000 ∧ (ps.map (·.1)).Nodup ∧
  (∀ (i : Nat) d p, ds[i]? = some d → ps[i]? = some p → ∃ ρ', b.bind d (wipeD ρ own) ρ' ∧ R ρ' (dS p.1) ∧ R' ρ' (.bool p.2)) ∧ z = .dict (ps.map tbD)
theorem inr_inj : ∀ {a b : List Str}, a.map (Sum.inr : Str → Key) = b.map Sum.inr → a = b
  | [], [], _ => rfl
  | [], _ :: _, h => by cases h
  | _ :: _, [], h => by cases h
  | x :: a, y :: b, h => by
    rw [List.map_cons, List.map_cons] at h
    injection h with h1 h2
    injection h1 with h1
    rw [h1, inr_inj h2]
theorem putK_tb {ps : List (List Str × Bool)} {i : Nat} {p : List Str × Bool} (nd : (ps.map (·.1)).Nodup) (hp : ps[i]? = some p) : putK ((ps.take i).map tbK) (p.1.map Sum.inr) (V.bl p.2) = (ps.take (i + 1)).map tbK := by
  rw [putK_new]
  · rw [List.take_succ, hp]; simp
  · unfold valV
    rw [List.find?_eq_none.mpr]; rfl
    intro q hq
    obtain ⟨r, hr, e⟩ := List.mem_map.mp hq
    simp only [decide_eq_true_eq]
    intro e2
    rw [← e] at e2
    have e3 : r.1 = p.1 := inr_inj e2
    obtain ⟨j, hj, e4⟩ := List.getElem_of_mem hr
    rw [List.length_take] at hj
    have hji : j < i := by omega
    have e5 : ps[j]? = some r := by
      rw [← e4, List.getElem_take, List.getElem?_eq_getElem]
    have q1 : (ps.map (·.1))[j]? = some p.1 := by rw [List.getElem?_map, e5]; exact congrArg some e3
    have q2 : (ps.map (·.1))[i]? = some p.1 := by rw [List.getElem?_map, hp]; rfl
    obtain ⟨l1, v1⟩ := List.getElem?_eq_some_iff.mp q1
    obtain ⟨l2, v2⟩ := List.getElem?_eq_some_iff.mp q2
    have := (List.getElem_inj nd).mp (v1.trans v2.symm)
    omega
section
variable {X : Cx} {T : TabL}
theorem de_dcT {kx vx tg iter : Expr} {scope : Scope} {own : List (Str × Nat)} {pos : Pos} {I : RA} {b : Bn} {R R' : RE} (hc : X.calm = true) (hu : X.A.units + 65 < cLine) (hN : X.N.Nodup) (hi : DI X T tg iter I) (ok : BlkOk X.N X.env.scope scope own) (hb : ∀ i ∈ b.slots, i ∈ own.map (·.2))
    (hg : BlkP X scope fun Y => DG Y tg b) (hk : BlkP X scope fun Y => DE Y T kx R) (he : BlkP X scope fun Y => DE Y T vx R') (hs : ∀ x, foldedSetIterable iter X.env x = pure x := by intro _; rfl) :
    DE X T (.DictComp kx vx [⟨tg, iter, [], 0⟩] scope pos) (rDcT (own.map (·.2)) I b R R') :=
  pe_weak (pe_frz (pe_dcT (wi := iD X.K T I) (g := gB X.K b) (tk := tD X.K T R) (tv := tD X.K T R') hc hu hN hi ok hg hk he hs)) fun σ H Q ⟨ρ, z, M, S, ⟨ds, ps, hI, hl, hz, nd, hrun, ez⟩, k⟩ => by
    subst ez
    refine ⟨ρ, ds, M, S, hI, fun J H1 g hlen its D hD => ?_⟩
    have S1 := S.gr g
    have hDM : D ∉ M := S1.fresh hD
    refine loopF its (D :: M) (fun i H2 => Gr T H1 H2 ∧ H2 D = some (.dT ((ps.take i).map tbK))) ⟨Gr.upd hD, upd_same⟩ (fun i H2 ⟨g2, h2⟩ => ⟨fun a ha => ?_, Le.new hD g2⟩) (fun H2 ⟨g2, h2⟩ => ?_) ?_
    · rcases List.mem_cons.mp ha with e | ha
      · rw [e]; exact ⟨_, h2, ⟨(fun _ z => by cases z), (fun _ z => by cases z)⟩⟩
      · exact MOk.gr S1.msk g2 a ha
    · rw [hl, List.take_length] at h2
      exact ⟨D, _, rfl, h2, trivial, fun od => k _ _ (g.trans ⟨fun a o h n => by rw [upd_ne (ne_of_none h hD)]; exact g2.1 a o h n, fun t => tabs_dT h2 (g2.2 t)⟩) (.dit (hid_of hDM upd_same))⟩
    · rintro i hlt H2 x H' ⟨g2, h2⟩ g3 ix
      have hpl : i < ps.length := by omega
      obtain ⟨ρ', hbd, hR, hR'⟩ := hrun i ds[i] ps[i] (List.getElem?_eq_getElem hlt) (List.getElem?_eq_getElem hpl)
      have mk2 : MOk (D :: M) H2 := fun a ha => by
        rcases List.mem_cons.mp ha with e | ha
        · rw [e]; exact ⟨_, h2, ⟨(fun _ z => by cases z), (fun _ z => by cases z)⟩⟩
        · exact MOk.gr S1.msk g2 a ha
      have S3 : Sat X.K T (D :: M) H' (wipe σ (own.map (·.2))) (wipeD ρ (own.map (·.2))) := ((S1.le (g2.2 S1.tabs) mk2 (Le.new hD g2)).wipe _).gr g3
      refine gB_run S3 ix hbd fun σ2 S4 o2 l2 => ⟨wipe_bind hb o2 l2, tD2 S4 hR hR' fun v u H5 g5 i1 i2 => ?_⟩
      have h5 : H5 D = some (.dT ((ps.take i).map tbK)) := (g3.trans g5).1 _ _ h2 fun _ z => by cases z
      have i1' : IsD X.K (hid H5 (D :: M)) v (.tuple (ps[i].1.map .str)) := i1
      cases i1' with
      | @tup c us _ hc' t =>
        rw [t.strs] at hc'
        cases i2
        refine ⟨_, ps[i].1.map Sum.inr, c, rfl, by rw [kVs_texts]; exact (hid_some hc').2, h5, ?_, ⟨fun a o h n => ?_, fun t => tabs_dT h5 ((g2.trans (g3.trans g5)).2 t)⟩, ?_⟩
        · rw [List.length_map, List.length_take, sizeLine_eq]; omega
        · rw [upd_ne (ne_of_none h hD)]
          exact (g2.trans (g3.trans g5)).1 a o h n
        · rw [upd_same, putK_tb nd (List.getElem?_eq_getElem hpl)]
end
end Vk

/-! ## VkMisc -/
set_option Elab.async false
set_option linter.all false
set_option maxRecDepth 100000
set_option maxHeartbeats 2000000
/-! isinstance, list.count, texts walked, ranges, zip in a loop, over data. -/
namespace Vk
open PySem PySem.Spec PyProof.Rows PySem.W L2 LamX StX
/-! ### isinstance -/
def tyN : PyData → String
  | .none => "NoneType"
  | .bool _ => "bool"
  | .int _ => "int"
  | .str _ => "str"
  | .list _ => "list"
  | .tuple _ => "tuple"
  | .dict _ => "dict"
def isTy (d : PyData) (T : String) : Bool := tyN d == T || (tyN d == "bool" && T == "int")
def TyOks : List String := ["list", "tuple", "bool", "str", "int"]
theorem kit_all : (["NoneType", "bool", "int", "str", "list", "tuple", "dict"].all fun a => TyOks.all fun b => kitB a b == some (a == b || (a == "bool" && b == "int"))) = true := by decide +kernel
theorem kit_one {K : PySem.W.Frag} (d : PyData) {T : String} (h : T ∈ TyOks) : PySem.W.kitOne K (.type (tyN d)) (.type T) = some (isTy d T) := by
  refine kit_ty ?_
  have hm : tyN d ∈ ["NoneType", "bool", "int", "str", "list", "tuple", "dict"] := by cases d <;> simp [tyN]
  exact beq_iff_eq.mp (List.all_eq_true.mp (List.all_eq_true.mp kit_all _ hm) _ h)
theorem isD_ty {K : PySem.W.Frag} {H : Hp} {v : V} {d : PyData} (h : IsD K H v d) (n : noDict d = true) : TyX K H v (.type (tyN d)) := by
  cases h with
  | non => exact .base .non
  | bl b => exact .base (.bl b)
  | int i => exact .base (.int i)
  | str x => exact .base (.str x)
  | lst h _ => exact .base (.lst h)
  | tup h _ => exact .base (.tup h)
  | dik h _ _ => simp [noDict] at n
  | dit h => simp [noDict] at n
section
variable {X : Cx} {T : TabL}
def rIsi1 (R : RE) (c : String) : RE := fun ρ z => ∃ d, R ρ d ∧ noDict d = true ∧ z = .bool (isTy d c)
theorem de_isi1 {e c : Expr} {R : RE} {C : String} {p pos : Pos} (hC : C ∈ TyOks) (hg : Gl X "isinstance") (hm : X.mg "isinstance" = none) (he : DE X T e R) (hc : PE X c (tC (.ty C)))
    (hs1 : starEach [e, c] X.env = (false, eval e X.env) :: starEach [c] X.env := by rfl) (hs2 : starEach [c] X.env = (false, eval c X.env) :: starEach [] X.env := by rfl)
    (hpl : (backTo pos (starEach [c] X.env)).any (·.1) = false := by rfl) : DE X T (.Call (.Name "isinstance" p) [e, c] [] pos) (rIsi1 R C) :=
  pe_weak (pe_callB call_isi hg hm PyProof.Rows.boot_isinstance (pa_cons he (pa_cons hc pa_nil hs2) hs1) (he := hs1) (hpl := hpl)) fun σ H Q ⟨ρ, z, M, S, ⟨d, r, n, ez⟩, k⟩ => by
    subst ez
    refine tD1 S r fun v H1 g i => ?_
    exact ⟨v, .ty C, _, _, isTy d C, rfl, .ty C, isD_ty i.all n, kit_one d hC, k _ H1 g (.bl _)⟩
def rIsi2 (R : RE) (c c' : String) : RE := fun ρ z => ∃ d, R ρ d ∧ noDict d = true ∧ z = .bool (isTy d c || isTy d c')
theorem de_isi2 {e c c' : Expr} {R : RE} {C C' : String} {kk : Nat} {p pos tpos : Pos} (hC : C ∈ TyOks) (hC' : C' ∈ TyOks) (hg : Gl X "isinstance") (hm : X.mg "isinstance" = none) (he : DE X T e R) (hc : PE X c (tC (.ty C))) (hc' : PE X c' (tC (.ty C')))
    (hs0 : starEach [c, c'] X.env = (false, eval c X.env) :: starEach [c'] X.env := by rfl) (hs00 : starEach [c'] X.env = (false, eval c' X.env) :: starEach [] X.env := by rfl)
    (hs1 : starEach [e, .Tuple [c, c'] kk tpos] X.env = (false, eval e X.env) :: starEach [.Tuple [c, c'] kk tpos] X.env := by rfl) (hs2 : starEach [.Tuple [c, c'] kk tpos] X.env = (false, eval (.Tuple [c, c'] kk tpos) X.env) :: starEach [] X.env := by rfl)
    (hpl : (backTo pos (starEach [.Tuple [c, c'] kk tpos] X.env)).any (·.1) = false := by rfl) : DE X T (.Call (.Name "isinstance" p) [e, .Tuple [c, c'] kk tpos] [] pos) (rIsi2 R C C') :=
  pe_weak (pe_callB call_isiT hg hm PyProof.Rows.boot_isinstance (pa_cons he (pa_cons (pe_tup (pa_cons hc (pa_cons hc' pa_nil hs00) hs0)) pa_nil hs2) hs1) (he := hs1) (hpl := hpl)) fun σ H Q ⟨ρ, z, M, S, ⟨d, r, n, ez⟩, k⟩ => by
    subst ez
    refine tD1 S r fun v H1 g i => ?_
    refine ⟨by show 2 ≤ sizeLine; decide, fun p hp => ?_⟩
    refine ⟨v, p, _, _, [.type C, .type C'], isTy d C || isTy d C', rfl, upd_same, .cons (.ty C) (.cons (.ty C') .nil), isD_ty ((i.gr (Gr.upd (T := T) hp)).all) n, ?_, k _ _ (g.trans (Gr.upd hp)) (.bl _)⟩
    cases h1 : isTy d C with
    | true => exact kitAny_cons (b := true) (by rw [kit_one d hC, h1]) (fun z => nomatch z) fun _ => rfl
    | false =>
      refine kitAny_cons (b := false) (by rw [kit_one d hC, h1]) (fun _ => ?_) fun z => nomatch z
      cases h2 : isTy d C' with
      | true => exact kitAny_cons (b := true) (by rw [kit_one d hC', h2]) (fun z => nomatch z) fun _ => rfl
      | false => exact kitAny_cons (b := false) (by rw [kit_one d hC', h2]) (fun _ => kitAny_nil) fun z => nomatch z
/-! ### xs.count(x) -/
theorem typ_count : typeOf (.builtin "list.count") = pure (.type "method_descriptor") := by show builtinType _ = _; rw [builtinType_eq_fast]; kernel_rfl
theorem mt_countS : MtM X "list.count" fun x vs H Q => ∃ (l : Addr) (xs : List Str) (y : Str), x = .ref l ∧ vs = [.str y] ∧ H l = some (.lst (xs.map V.str)) ∧ Q (.int (xs.count y : Nat)) H := by
  intro pins s σ H x vs v us Q I rx rv h
  obtain ⟨l, xs, y, rfl, rfl, hH, q⟩ := h
  cases rx
  obtain ⟨u, rfl, t, rfl⟩ := rv.one
  obtain ⟨its, r, pl, hz⟩ := I.list (SqL.of (K := X.K) hH)
  refine count_list_strs (t := t) (ys := xs) pl.isList (by simpa using strsAre_of r) ?_
  have e : ∀ xs : List Str, PySem.Spec.countIn (.str y) (xs.map PyData.str) = ((xs.count y : Nat) : Int) := fun xs => by
    induction xs with
    | nil => rfl
    | cons x xs ih =>
      rw [List.map_cons, PySem.Spec.countIn, ih, List.count_cons]
      by_cases c : x = y
      · subst c
        have h : PySem.Spec.same (.str x) (.str x) = true := by simp [PySem.Spec.same]
        rw [if_pos h, if_pos (beq_self_eq_true x)]
        omega
      · have h : ¬ PySem.Spec.same (.str x) (.str y) = true := by simp [PySem.Spec.same, c]
        rw [if_neg h, if_neg (by simpa using c)]
        omega
  rw [e]
  exact ⟨.int _, H, I.tok _, ⟨_, rfl⟩, q⟩
def rCount (R R' : RE) : RE := fun ρ z => ∃ (xs : List Str) (y : Str), R ρ (.list (xs.map PyData.str)) ∧ R' ρ (.str y) ∧ z = .int (xs.count y : Nat)
theorem de_count {o e : Expr} {R R' : RE} {apos cpos : Pos} (ho : DE X T o R) (he : DE X T e R') (hbase : attributeBase o "count" X.env (eval o X.env) = eval o X.env := by rfl)
    (hfew : ((backTo cpos (starEach [e] X.env)).all (fun x => !x.1) && (backToKw cpos (keywordEach [] X.env)).all (fun x => x.1.isSome)
      && decide (([e] : List Expr).length + ([] : List Keyword).length + (if ([] : List Keyword).isEmpty then 0 else 1) < 30)) = true := by rfl)
    (hline : (apos.endLine == cpos.line) = true := by rfl) (hs : starEach [e] X.env = (false, eval e X.env) :: starEach [] X.env := by rfl) (hplain : (backTo cpos (starEach [] X.env)).any (·.1) = false := by rfl) :
    DE X T (.Call (.Attribute o "count" apos) [e] [] cpos) (rCount R R') :=
  pe_weak (pe_bm PySem.F.plainAttrs_list PySem.F.slot_list_count typ_count mt_countS ho (pa_cons he pa_nil hs) hbase hfew hline hs hplain) fun σ H Q ⟨ρ, z, M, S, ⟨xs, y, r1, r2, ez⟩, k⟩ => by
    subst ez
    refine tD1 S r1 fun v H1 g i => ?_
    cases i with
    | @lst a us _ ha t =>
      rw [t.strs] at ha
      have ha' := (hid_some ha).2
      refine ⟨.inl ⟨rfl, _, SqL.of ha'⟩, tD1 (S.gr g) r2 fun u H2 g2 i2 => ?_⟩
      cases i2
      exact ⟨a, xs, y, rfl, rfl, g2.1 _ _ ha' (fun _ z => by cases z), k _ H2 (g.trans g2) (.int _)⟩
/-! ### for c in a text -/
def sgn (c : Nat) : PyData := .str ⟨#[c]⟩
def rText (R : RE) : RA := fun ρ ds => ∃ x : Str, R ρ (.str x) ∧ x.cps.size ≤ 1000000 ∧ ds = x.cps.toList.map sgn
theorem di_text {tg e : Expr} {R : RE} (h : DE X T e R) : DI X T tg e (rText R) := ⟨fun pins s σ H J I q => (pi_str h).run pins s σ H J I (by
  obtain ⟨ρ, ds, M, S, ⟨x, r, hl, ed⟩, k⟩ := q
  subst ed
  refine tD1 S r fun v H1 g i => ?_
  cases i
  refine ⟨x, rfl, k _ H1 g (by rw [List.length_map, Array.length_toList]; exact line_of hl) fun H M' mk l => ⟨fun i d e => ?_, by rw [List.length_map, Array.length_toList]; exact Nat.le_refl _⟩⟩
  rw [List.getElem?_map, Array.getElem?_toList] at e
  cases hc : x.cps[i]? with
  | none => rw [hc] at e; cases e
  | some c =>
    rw [hc] at e
    cases e
    refine ⟨(Array.getElem?_eq_some_iff.mp hc).1, fun y H' ⟨eH, c', hc', ey⟩ => ?_⟩
    rw [hc] at hc'
    cases hc'
    subst eH
    subst ey
    exact ⟨Gr.refl T _, .str _⟩)⟩
/-! ### for a, b in zip(xs, ys), two lists or two tuples -/
def rZip (R R' : RE) : RA := fun ρ ds => ∃ xs ys : List PyData, ((R ρ (.list xs) ∧ R' ρ (.list ys)) ∨ (R ρ (.tuple xs) ∧ R' ρ (.tuple ys))) ∧ xs.length ≤ 1000000 ∧ ds = (xs.zip ys).map pairD
theorem zip_get {α β : Type} {xs : List α} {ys : List β} {i : Nat} {p : α × β} (h : (xs.zip ys)[i]? = some p) : xs[i]? = some p.1 ∧ ys[i]? = some p.2 := List.getElem?_zip_eq_some.mp h
theorem di_zip {e1 e2 : Expr} {R R' : RE} {p pos tpos : Pos} {elts : List Expr} {kk : Nat} (hg : Gl X "zip") (hm : X.mg "zip" = none) (h1 : DE X T e1 R) (h2 : DE X T e2 R') (hs : starEach [e1, e2] X.env = (false, eval e1 X.env) :: starEach [e2] X.env := by rfl) (hs2 : starEach [e2] X.env = (false, eval e2 X.env) :: starEach [] X.env := by rfl)
    (hpl : (backTo pos (starEach [e2] X.env)).any (·.1) = false := by rfl) : DI X T (.Tuple elts kk tpos) (.Call (.Name "zip" p) [e1, e2] [] pos) (rZip R R') :=
  ⟨fun pins s σ H J I q => (RZ.pi_zipA hg hm (pa_cons h1 (pa_cons h2 pa_nil hs2) hs) hs hpl).run pins s σ H J I (by
    obtain ⟨ρ, ds, M, S, ⟨xs, ys, r, hl, ed⟩, k⟩ := q
    subst ed
    have hlen : ((xs.zip ys).map pairD).length ≤ sizeLine := by rw [List.length_map, List.length_zip]; have := line_of hl; omega
    rcases r with ⟨r1, r2⟩ | ⟨r1, r2⟩
    · refine tD2 S r1 r2 fun v u H1 g i1 i2 => ?_
      cases i1 with
      | @lst a vs _ ha t1 =>
        cases i2 with
        | @lst b us _ hb t2 =>
          refine ⟨a, b, vs, us, rfl, .inl ⟨SqL.of (hid_some ha).2, SqL.of (hid_some hb).2, k _ H1 g hlen fun H M' mk l => ?_⟩⟩
          have ha' : H a = some (.lst vs) := (hid_some (l _ _ ha fun _ z => by cases z)).2
          have hb' : H b = some (.lst us) := (hid_some (l _ _ hb fun _ z => by cases z)).2
          refine ⟨fun i d e => ?_, ⟨vs, us, SqL.of ha', SqL.of hb', ?_⟩⟩
          · rw [List.getElem?_map] at e
            cases hp : (xs.zip ys)[i]? with
            | none => rw [hp] at e; cases e
            | some p =>
              rw [hp] at e
              cases e
              obtain ⟨e1, e2⟩ := zip_get hp
              obtain ⟨v, hv, iv⟩ := t1.getD e1
              obtain ⟨u, hu, iu⟩ := t2.getD e2
              refine ⟨⟨vs, us, v, u, SqL.of ha', SqL.of hb', hv, hu⟩, fun x H' ⟨t, x', y', ex, ht, eH, f1, f2⟩ => ?_⟩
              have q1 := f1 _ (SqL.of ha')
              have q2 := f2 _ (SqL.of hb')
              rw [hv] at q1
              rw [hu] at q2
              cases q1
              cases q2
              subst ex
              subst eH
              exact ⟨Gr.upd ht, new_tup (msk_fresh mk ht) ht (.cons (iv.le l) (.cons (iu.le l) .nil))⟩
          · rw [List.length_map, List.length_zip, t1.length, t2.length]; omega
    · refine tD2 S r1 r2 fun v u H1 g i1 i2 => ?_
      cases i1 with
      | @tup a vs _ ha t1 =>
        cases i2 with
        | @tup b us _ hb t2 =>
          refine ⟨a, b, vs, us, rfl, .inr ⟨SqT.of (hid_some ha).2, SqT.of (hid_some hb).2, k _ H1 g hlen fun H M' mk l => ?_⟩⟩
          have ha' : H a = some (.tup vs) := (hid_some (l _ _ ha fun _ z => by cases z)).2
          have hb' : H b = some (.tup us) := (hid_some (l _ _ hb fun _ z => by cases z)).2
          refine ⟨fun i d e => ?_, ⟨vs, us, SqT.of ha', SqT.of hb', ?_⟩⟩
          · rw [List.getElem?_map] at e
            cases hp : (xs.zip ys)[i]? with
            | none => rw [hp] at e; cases e
            | some p =>
              rw [hp] at e
              cases e
              obtain ⟨e1, e2⟩ := zip_get hp
              obtain ⟨v, hv, iv⟩ := t1.getD e1
              obtain ⟨u, hu, iu⟩ := t2.getD e2
              refine ⟨⟨vs, us, v, u, SqT.of ha', SqT.of hb', hv, hu⟩, fun x H' ⟨t, x', y', ex, ht, eH, f1, f2⟩ => ?_⟩
              have q1 := f1 _ (SqT.of ha')
              have q2 := f2 _ (SqT.of hb')
              rw [hv] at q1
              rw [hu] at q2
              cases q1
              cases q2
              subst ex
              subst eH
              exact ⟨Gr.upd ht, new_tup (msk_fresh mk ht) ht (.cons (iv.le l) (.cons (iu.le l) .nil))⟩
          · rw [List.length_map, List.length_zip, t1.length, t2.length]; omega)⟩
end
end Vk

/-! ## VkDef -/
set_option Elab.async false
set_option linter.all false
set_option maxRecDepth 100000
set_option maxHeartbeats 1000000
/-! A def's promise over data, made of its body's reading. -/
namespace Vk
open PySem PySem.Spec PyProof.Rows L2 LamX StX
/-- the def of the text at its name -/
def Tx (K : PySem.W.Frag) (mg : Str → Option Value) (x : Str) (st : Stmt) : Prop := ∃ (f : Addr) (fd : FuncData), mg x = some (.ref f) ∧ Fun K x x st f fd
/-- how a def's arguments bind -/
def BindsSt (st : Stmt) (x : Str) (ps : List Str) : Prop := ∀ (kV doc pm : Value) (an : Option Addr) (cdv ct : Value) (us : List Value), us.length = ps.length → bindArgs (PySem.W.fnOf x x (defArgs st) (defBody st) (defScope st) .none kV doc pm an cdv ct) ⟨us, []⟩ = pure (ps.zip us)
structure PDef (P : Program) (w : World) (K : PySem.W.Frag) (mg : Str → Option Value) (base : Heap) (T : TabL) (x : Str) (k n : Nat) (φ : Phi) : Prop where
  ex : ∃ (f : Addr) (fd : FuncData) (ps : List Str), mg x = some (.ref f) ∧ PySem.W.keepIn K (.ref f) = true ∧ Binds K fd ps [] ∧ ps.length = n ∧ FnOk P w K mg base CX0 k f fd ps (spD K T n φ)
def startE (N : List Str) (ds : List PyData) : Ev := ds.map (fun d => some (.d d)) ++ List.replicate (N.length - ds.length) none
theorem isDs_dat {K : PySem.W.Frag} {H : Hp} : ∀ {vs : List V} {ds : List PyData} {i : Nat} {x : PyData} {n : Nat}, IsDs K H vs ds → (ds.map (fun d => some (Cell.d d)) ++ List.replicate n none)[i]? = some (some (.d x)) → ∃ v, (vs.map some ++ List.replicate n none)[i]? = some (some v) ∧ IsD K H v x
  | [], [], i, x, n, _, h => by
    have h' : (List.replicate n (none : Option Cell))[i]? = some (some (.d x)) := h
    rw [List.getElem?_replicate] at h'
    split at h' <;> cases h'
  | v :: vs, d :: ds, 0, x, n, .cons h t, e => by
    have e' : some (some (Cell.d d)) = some (some (.d x)) := e
    cases e'
    exact ⟨v, rfl, h⟩
  | v :: vs, d :: ds, i + 1, x, n, .cons h t, e => by
    obtain ⟨u, h1, h2⟩ := isDs_dat (i := i) (n := n) t e
    exact ⟨u, h1, h2⟩
theorem startE_no {N : List Str} {ds : List PyData} {i : Nat} {xs : List PyData} (h : (startE N ds)[i]? = some (some (.o xs))) : False := by
  unfold startE at h
  have hm := List.mem_of_getElem? h
  rcases List.mem_append.mp hm with q | q
  · obtain ⟨d, _, e⟩ := List.mem_map.mp q
    cases e
  · have := (List.mem_replicate.mp q).2
    cases this
theorem start_st2 {K : PySem.W.Frag} {T : TabL} {M : List Addr} {H : Hp} {N : List Str} {vs : List V} {ds : List PyData} (tb : Tabs T H) (mk : MOk M H) (i : IsDs K (hid H M) vs ds) : St2 K T M M H (L2.start N vs) (startE N ds) where
  tabs := tb
  msk := mk
  sub := fun _ h => h
  len := by
    unfold L2.start startE
    rw [List.length_append, List.length_append, List.length_map, List.length_map, List.length_replicate, List.length_replicate, i.length]
  dat := fun j x e => by
    unfold L2.start
    rw [i.length]
    exact isDs_dat i e
  own := fun j xs e => (startE_no e).elim
  dis := fun j l xs ys _ e _ => (startE_no e).elim
section
variable {P : Program} {w : World} {K : PySem.W.Frag} {mg : Str → Option Value} {base : Heap} {T : TabL}
abbrev XC (P : Program) (w : World) (K : PySem.W.Frag) (mg : Str → Option Value) (base : Heap) (N : List Str) (x : Str) (st : Stmt) (f : Addr) (cdv : Value) (A : Around) (outer : List Env) (s : Shared) (H : Hp) (E : XK) : Cx := (cxOf CX0 P w K mg base N x (defScope st) f cdv A outer s H E).nox
/-- the body at any entry -/
abbrev Body (P : Program) (w : World) (K : PySem.W.Frag) (mg : Str → Option Value) (base : Heap) (T : TabL) (N : List Str) (x : Str) (st : Stmt) (k : Nat) (W : W2) : Prop :=
  ∀ (f : Addr) (cdv : Value) (A : Around) (outer : List Env) (s : Shared) (H : Hp) (E : XK), Room k (A.deeper (envOfC x (defScope st) s.heap.objs.size f cdv)) → DSs (XC P w K mg base N x st f cdv A outer s H E) T (defBody st) W
theorem PDef.make {x : Str} {st : Stmt} {N ps : List Str} {k : Nat} {φ : Phi} {W : W2} (F : Tx K mg x st) (S : FnScope N ps (defScope st)) (hb : BindsSt st x ps) (hbody : Body P w K mg base T N x st k W)
    (hsem : ∀ ds d, ds.length = ps.length → φ ds d → W (fun _ => d = .none) (fun y => y = d) (startE N ds)) : PDef P w K mg base T x (k + 1) ps.length φ := by
  obtain ⟨f, fd, hm, F⟩ := F
  refine ⟨f, fd, ps, hm, F.kp, F.binds hb, rfl, F.ok S (fun vs H Q E h => h.1) fun cdv A outer s H vs Q E hr h => ?_⟩
  obtain ⟨hl, ds, d, M, tb, mk, i, ph, q⟩ := h
  refine ⟨_, hbody f cdv A outer s H E hr, M, M, _, _, _, start_st2 tb mk i, hsem ds d (by rw [← i.length]; exact hl) ph, fun σ' H' M' ε' fr S' e => ?_, fun v H' M' d' fr iv e => ?_⟩
  · subst e
    exact q _ H' fr.out .non
  · subst e
    exact q v H' fr.out iv
theorem PDef.weak {x : Str} {k n : Nat} {φ φ' : Phi} (D : PDef P w K mg base T x k n φ) (h : ∀ ds d, φ' ds d → φ ds d) : PDef P w K mg base T x k n φ' := by
  obtain ⟨f, fd, ps, h1, h2, h3, h4, h5⟩ := D.ex
  refine ⟨f, fd, ps, h1, h2, h3, h4, ⟨fun vs H Q E q => h5.len vs H Q E ?_, fun A outer s H args us vs Q E hr e0 hb r q => h5.run A outer s H args us vs Q E hr e0 hb r ?_⟩⟩
  all_goals
    obtain ⟨q0, ds, d, M, q1, q2, q3, q4, q5⟩ := q
    exact ⟨q0, ds, d, M, q1, q2, q3, h _ _ q4, q5⟩
end
/-! ### calls of such defs -/
def rCallN (n : Nat) (φ : Phi) (A : RA) : RE := fun ρ d => ∃ ds, A ρ ds ∧ ds.length = n ∧ φ ds d
section
variable {X : Cx} {T : TabL}
theorem de_callD {k k' n : Nat} {φ : Phi} {x : Str} {p pos : Pos} {e : Expr} {es : List Expr} {A : RA} (D : PDef X.prog X.w X.K X.mg X.base T x k n φ) (hr : Room k' X.A) (hk : k ≤ k') (hg : Gl X x) (ha : DA X T (e :: es) A) (hdb : (x == ("__debug__" : Str)) = false := by decide)
    (he : starEach (e :: es) X.env = (false, eval e X.env) :: starEach es X.env := by rfl) (hpl : (backTo pos (starEach es X.env)).any (·.1) = false := by rfl) : DE X T (.Call (.Name x p) (e :: es) [] pos) (rCallN n φ A) := by
  obtain ⟨f, fd, ps, hm, hkp, hb, hn, F⟩ := D.ex
  have hx : Passes CX0 X E0 := pass0
  refine pe_weak (pe_call (E := E0) F (hr.mono hk) hg hm hkp hb .nil hx ha hdb he hpl) fun σ H Q ⟨ρ, d, M, S, ⟨ds, r, hl, ph⟩, kk⟩ => ?_
  refine ⟨ρ, ds, M, S, r, fun vs H1 g1 i1 => ?_⟩
  show spD X.K T n φ (vs ++ []) H1 Q E0
  rw [List.append_nil]
  exact ⟨i1.length.trans hl, ds, d, M, (S.gr g1).tabs, (S.gr g1).msk, i1, ph, fun v H2 g2 i2 => kk v H2 (g1.trans g2) i2⟩
def rCall0 (φ : Phi) : RE := fun _ d => φ [] d
theorem de_call0 {k k' : Nat} {φ : Phi} {x : Str} {p pos : Pos} (D : PDef X.prog X.w X.K X.mg X.base T x k 0 φ) (hr : Room k' X.A) (hk : k ≤ k') (hg : Gl X x) (hdb : (x == ("__debug__" : Str)) = false := by decide) : DE X T (.Call (.Name x p) [] [] pos) (rCall0 φ) := by
  obtain ⟨f, fd, ps, hm, hkp, hb, hn, F⟩ := D.ex
  have hx : Passes CX0 X E0 := pass0
  refine pe_weak (pe_call0 (E := E0) F (hr.mono hk) hg hm hkp hb .nil hx hdb) fun σ H Q ⟨ρ, d, M, S, ph, kk⟩ => ?_
  show spD X.K T 0 φ ([] ++ []) H Q E0
  exact ⟨rfl, [], d, M, S.tabs, S.msk, .nil, ph, fun v H2 g2 i2 => kk v H2 g2 i2⟩
theorem dt_bool {R : RE} {e : Expr} (h : DT X T e (rOf R)) : DT X T e (rOf R) := h
theorem ds_set {i : Nat} {x : Str} {e : Expr} {R : RE} {pos' pos : Pos} (hN : X.N.Nodup) (hi : X.N[i]? = some x) (hx : Loc X.env.scope x) (he : DE X T e R) (hs : swapsWith e (some (.Name x pos')) pos.line X.env = pure false := by rfl) (hf : X.fn x = true ∨ X.env.scope.names.lookup x = some .local := by first | exact .inl rfl | exact .inr rfl | assumption) :
    DS X T (.Assign [.Name x pos'] e pos) (wSet i R) := ds_setG (ps_set hN hi hx he hs hf)
theorem ds_own {i : Nat} {x : Str} {e : Expr} {R : RA} {pos' pos : Pos} (hN : X.N.Nodup) (hi : X.N[i]? = some x) (hx : Loc X.env.scope x) (he : DF X T e R) (hs : swapsWith e (some (.Name x pos')) pos.line X.env = pure false := by rfl) (hf : X.fn x = true ∨ X.env.scope.names.lookup x = some .local := by first | exact .inl rfl | exact .inr rfl | assumption) :
    DS X T (.Assign [.Name x pos'] e pos) (wOwn i R) := ds_ownG (ps_set hN hi hx he hs hf)
end
end Vk

/-! ## VkPar -/
set_option Elab.async false
set_option linter.all false
set_option maxRecDepth 100000
set_option maxHeartbeats 1000000
/-! several names at once where one is captured: the tuple is made, then taken apart. -/
namespace Vk
open PySem PySem.Spec PyProof.Rows L2 LamX StX
section
variable {X : Cx} {T : TabL}
theorem wPar_runG {is : List Nat} {R : RCs} {D : Ends} {σ : L2.St} {H : Hp} (q : tS X.K T (wPar is R) D σ H) : tDC X.K T R σ H fun vs H1 => vs.length = is.length ∧ ∀ H2, Gr T H1 H2 → D.nx (setV σ is vs) H2 := by
  obtain ⟨M0, M, ε, Nx, Rt, S, ⟨cs, r, hl, q⟩, k1, k2⟩ := q
  refine ⟨mk ε, cs, M, S.sat, r, fun vs H' N MM g le mk' mm wf c => ⟨c.len.trans hl, fun H2 g2 => ?_⟩⟩
  have S' : St2 X.K T M0 MM H' σ ε := ⟨g.2 S.tabs, mk', fun a ha => (mm a).2 (.inr (S.sub a ha)), S.len, fun i d e => let ⟨v, h1, h2⟩ := S.dat i d e; ⟨v, h1, h2.le le⟩,
    fun i d e => let ⟨a, us, h1, h2, h3, h4, h5⟩ := S.own i d e; ⟨a, us, h1, (mm a).2 (.inr h2), h3, g.1 _ _ h4 (fun ps z => by cases z), h5.le le⟩, S.dis⟩
  have f : Fr T M0 H M H' MM := ⟨fun b o q n z => ⟨g.1 _ _ q n, by
    rcases z with z | z
    · refine .inl fun hb => ?_
      rcases (mm b).1 hb with hb | hb
      · obtain ⟨ps, e⟩ := wf b hb _ q
        exact n ps e
      · exact z hb
    · exact .inr z⟩, g.2⟩
  refine k1 _ H2 MM _ (f.trans (Fr.gr g2)) ((St2.setCs c is σ ε S' fun a ha => ⟨(mm a).2 (.inl ha), fun z => ?_, fun j ys e => ?_⟩).gr g2) q
  · obtain ⟨o, e, n⟩ := S.msk a (S.sub a z)
    obtain ⟨ps, q⟩ := wf a ha o e
    exact n.1 ps q
  · obtain ⟨b, us, h1, h2, h3, h4, h5⟩ := S.own j ys e
    rw [h1]
    intro z
    cases z
    obtain ⟨ps, q⟩ := wf _ ha _ h4
    cases q
theorem gNames_setV {Q : L2.St → Hp → Prop} {H : Hp} : ∀ {is : List Nat} {vs : List V} {σ : L2.St}, vs.length = is.length → Q (setV σ is vs) H → gNames is vs σ H Q
  | [], [], σ, _, q => ⟨rfl, q⟩
  | i :: is, v :: vs, σ, hl, q => ⟨v, vs, rfl, gNames_setV (is := is) (vs := vs) (Nat.succ.inj hl) q⟩
theorem ds_parT {tg : Expr} {es : List Expr} {is : List Nat} {R : RCs} {kk : Nat} {tp pos : Pos} (he : DC X T es R) (hn : is.length ≤ 1000) (hg : DG X tg (.tp is)) (hs : swapsWithSole [tg] (.Tuple es kk tp) pos.line X.env = pure false := by rfl)
    (hw : swappedStores [tg] (.Tuple es kk tp) X.env = pure none := by rfl) (h1 : (assignEach [tg] X.env).map (·.2) = [assign tg X.env] := by rfl) : DS X T (.Assign [tg] (.Tuple es kk tp) pos) (wPar is R) :=
  ps_weak (ps_asg (pe_tup he) hg hs hw h1) fun D σ H q => by
    obtain ⟨ρ, cs, M, S, r, k⟩ := wPar_runG q
    refine ⟨ρ, cs, M, S, r, fun vs H' N MM g le mk' mm wf c => ?_⟩
    obtain ⟨hl, q⟩ := k vs H' N MM g le mk' mm wf c
    refine ⟨by rw [hl]; exact line_of (by omega), fun p hp => ?_⟩
    exact ⟨p, vs, rfl, SqT.of upd_same, hl, gNames_setV hl (q _ (Gr.upd hp))⟩
end
end Vk

/-! ## VkTop -/
set_option Elab.async false
set_option linter.all false
set_option maxRecDepth 100000
set_option maxHeartbeats 1000000
namespace Vk
open PySem PySem.Spec PyProof.Rows L2 LamX StX
/-! ### the text -/
def topS (i : Nat) : Stmt := PySem.Challenge.pw_vaultkeys_k92_whole_padlocks_behind_loss.main.body.getD i (.Pass ⟨0, 0, 0, 0⟩)
abbrev s_set_of : Stmt := topS 1
abbrev s_tupled : Stmt := topS 2
abbrev s_is_within : Stmt := topS 3
abbrev s_subsets : Stmt := topS 4
abbrev s_by_size : Stmt := topS 5
abbrev s_least_sets : Stmt := topS 6
abbrev s_check_keys : Stmt := topS 13
abbrev s_has_opener : Stmt := topS 14
abbrev s_open_table : Stmt := topS 15
abbrev s_least_vault : Stmt := topS 16
abbrev s_meets : Stmt := topS 18
abbrev s_barriers_of : Stmt := topS 19
abbrev s_barriers : Stmt := topS 20
abbrev s_undoes : Stmt := topS 22
abbrev s_undone_vault : Stmt := topS 23
abbrev s_is_right : Stmt := topS 24
abbrev s_wrong_held : Stmt := topS 25
abbrev s_fewest_locks : Stmt := topS 26
abbrev s_hung : Stmt := topS 27
abbrev s_trimmed : Stmt := topS 28
abbrev s_peoples_vault : Stmt := topS 30
abbrev s_house : Stmt := topS 32
abbrev s_put_in : Stmt := topS 33
abbrev s_ways_of : Stmt := topS 34
abbrev s_mattering : Stmt := topS 35
abbrev s_parts_by : Stmt := topS 36
abbrev s_against : Stmt := topS 37
abbrev s_committees : Stmt := topS 38
abbrev s_keys_without : Stmt := topS 40
abbrev s_lost : Stmt := topS 41
abbrev s_left_in : Stmt := topS 42
abbrev s_behind : Stmt := topS 43
abbrev s_law_box : Stmt := topS 45
abbrev s_law_take : Stmt := topS 46
abbrev s_law_cells : Stmt := topS 47
abbrev s_law_of : Stmt := topS 48
abbrev s_law_same : Stmt := topS 49
abbrev s_law_pick : Stmt := topS 50
abbrev s_law_subs : Stmt := topS 51
abbrev s_law_inside : Stmt := topS 52
abbrev s_law_least : Stmt := topS 53
abbrev s_law_vault : Stmt := topS 54
abbrev s_law_opens : Stmt := topS 55
abbrev s_law_three : Stmt := topS 56
abbrev s_law_two : Stmt := topS 57
abbrev s_law_six : Stmt := topS 58
abbrev s_law_idle : Stmt := topS 59
abbrev s_law_locks : Stmt := topS 60
abbrev s_law_kept : Stmt := topS 61
abbrev s_law_loss_right : Stmt := topS 62
abbrev s_law_house_right : Stmt := topS 63
abbrev s_law_people_right : Stmt := topS 64
abbrev s_law_lots_right : Stmt := topS 65
abbrev s_law_by_hand_right : Stmt := topS 66
abbrev s_law_right : Stmt := topS 67
abbrev s_law : Stmt := topS 68
end Vk

/-! ## VkExtra -/
set_option Elab.async false
set_option linter.all false
set_option maxRecDepth 100000
set_option maxHeartbeats 1000000
/-! The last rules: built-in names, a dropped value, a tuple of a text, dict(tupled(..)). -/
namespace Vk
open PySem PySem.Spec PyProof.Rows L2 LamX StX
structure Bl (mg : Str → Option Value) : Prop where
  tuple_ : mg "tuple" = none
  sorted_ : mg "sorted" = none
  set_ : mg "set" = none
  isinstance_ : mg "isinstance" = none
  list_ : mg "list" = none
  all_ : mg "all" = none
  any_ : mg "any" = none
  len_ : mg "len" = none
  dict_ : mg "dict" = none
  zip_ : mg "zip" = none
  int_ : mg "int" = none
  abs_ : mg "abs" = none
  min_ : mg "min" = none
  range_ : mg "range" = none
  enumerate_ : mg "enumerate" = none
  bool_ : mg "bool" = none
  str_ : mg "str" = none
theorem hu64 {k : Nat} {A : Around} (h : Room k A) : A.units + 64 < cLine := h.units
theorem hu65 {k : Nat} {A : Around} (h : Room k A) : A.units + 65 < cLine := by have := h.un; omega
theorem hu1 {k : Nat} {A : Around} (h : Room k A) : A.units + 1 < cLine := by have := h.un; omega
section
variable {X : Cx} {T : TabL}
def wExp (R : RE) : W2 := fun Nx _ ε => (∃ d, R (opn ε) d) ∧ Nx ε
theorem ds_expr {e : Expr} {R : RE} {pos : Pos} (he : DE X T e R) (hs : swapsWith e none pos.line X.env = pure false := by rfl) : DS X T (.Expr e pos) (wExp R) := ps_weak (ps_expr he hs) fun D σ H ⟨M0, M, ε, Nx, Rt, S, ⟨⟨d, r⟩, q⟩, k1, k2⟩ =>
  tD1 S.open r fun v H1 g i => k1 σ H1 M ε (Fr.gr g) (S.gr g) q
/-! ### tuple("abc") -/
theorem signs_rel {x : Str} : ∀ {l : List Value} {cs : List Nat} {i : Nat}, (∀ j v, l[j]? = some v → SignAt x (i + j) v) → l.length = cs.length → (∀ j c, cs[j]? = some c → x.cps[i + j]? = some c) → Vals (cs.map fun c => V.str ⟨#[c]⟩) l
  | [], [], _, _, _, _ => .nil
  | v :: l, c :: cs, i, h, hl, hc => by
    obtain ⟨c', u, e1, e2⟩ := h 0 v rfl
    rw [hc 0 c rfl] at e1
    cases e1
    subst e2
    exact .cons ⟨u, rfl⟩ (signs_rel (i := i + 1) (fun j v e => by have := h (j + 1) v e; rwa [show i + (j + 1) = i + 1 + j by omega] at this) (Nat.succ.inj hl) fun j c e => by have := hc (j + 1) c e; rwa [show i + (j + 1) = i + 1 + j by omega] at this)
theorem call_tupleS : CallR X (.type "tuple") (fun xs H Q => ∃ x : Str, xs = [.str x] ∧ x.cps.size ≤ 1000000 ∧ X.calm = true ∧ ∀ l, H l = none → Q (.ref l) (upd H l (.tup (x.cps.toList.map fun c => V.str ⟨#[c]⟩)))) := by
  intro pins s σ H xs us Q I r h
  obtain ⟨x, rfl, hz, hc, q⟩ := h
  obtain ⟨u, rfl, rx⟩ := vals1 r
  obtain ⟨t, rfl⟩ := rx
  refine PySem.call_tuple_str (I.ok.hd hc) x t (fun h' tk acc kp it => ?_) (line_of hz)
  have I1 : Inv X pins σ H { s with heap := h', toks := tk } := I.kept kp
  have rv : Vals (x.cps.toList.map fun c => V.str ⟨#[c]⟩) acc.toList := signs_rel (x := x) (i := 0) (fun j v e => by
    rw [Nat.zero_add]
    exact it.2 j v (by rw [Array.getElem?_toList] at e; exact e)) (by rw [Array.length_toList, Array.length_toList, it.1]) fun j c e => by rw [Nat.zero_add]; rw [Array.getElem?_toList] at e; exact e
  have I2 : Inv X pins σ (upd H h'.objs.size (.tup (x.cps.toList.map fun c => V.str ⟨#[c]⟩))) { s with heap := h'.push { cls := .type "tuple", data := .seq acc }, toks := tk } :=
    I1.laid (t' := tk) (fun b o e => Heap.get?_push_of_some _ e) (Nat.le_refl _) (show ObjOk X.prog X.w _ _ _ (.tup _) from ⟨by rw [List.length_map, Array.length_toList]; exact line_of hz, acc.toList, rv, by
      have e : acc.toList.toArray = acc := by simp
      rw [e]; exact IsTup.new _ _⟩)
  exact ⟨.ref h'.objs.size, _, I2, rfl, q _ (I1.hok.fresh (Nat.le_refl _))⟩
def rTupS (x : Str) : RE := fun _ d => d = .tuple (x.cps.toList.map sgn)
theorem isDs_sgn {K : PySem.W.Frag} {H : Hp} : ∀ cs : List Nat, IsDs K H (cs.map fun c => V.str ⟨#[c]⟩) (cs.map sgn)
  | [] => .nil
  | c :: cs => .cons (.str _) (isDs_sgn cs)
theorem de_tupS {x : Str} {p pos : Pos} {j pc} (hg : Gl X "tuple") (hm : X.mg "tuple" = none) (hz : x.cps.size ≤ 1000000) (hc : X.calm = true) (he : starEach [.Constant (.str x) j pc] X.env = (false, eval (.Constant (.str x) j pc) X.env) :: starEach [] X.env := by rfl)
    (hpl : (backTo pos (starEach [] X.env)).any (·.1) = false := by rfl) : DE X T (.Call (.Name "tuple" p) [.Constant (.str x) j pc] [] pos) (rTupS x) :=
  pe_weak (pe_callTy call_tupleS hg hm rfl (pa_cons pe_str pa_nil he) (by decide) (by decide) he hpl) fun σ H Q ⟨ρ, d, M, S, ed, k⟩ => by
    have ed' : d = .tuple (x.cps.toList.map sgn) := ed
    subst ed'
    exact ⟨x, rfl, hz, hc, fun l hl => k _ _ (Gr.upd hl) (new_tup (S.fresh hl) hl (isDs_sgn _))⟩
/-! ### dict(tupled(..)) -/
def PlainT (o : Obj) : Prop := o.cls = .type "tuple" ∧ o.dict = none
theorem call_tuple_ofF : CallR X (.type "tuple") (fun xs H Q => ∃ p ys, xs = [.ref p] ∧ SqL X.K H p ys ∧ ∀ l o, H l = none → PlainT o → Q (.ref l) (upd H l (.frz o (.tup ys)))) := by
  intro pins s σ H xs us Q I r h
  obtain ⟨p, ys, rfl, hq, q⟩ := h
  obtain ⟨u, rfl, rx⟩ := vals1 r
  cases rx
  obtain ⟨its, r', pl, hz⟩ := I.list hq
  have hlen := r'.length
  refine call_tuple_list pl.isList (fun h' kp => ?_) (by simp only [List.size_toArray] <;> omega)
  have I1 : Inv X pins σ H { s with heap := h' } := I.kept (t' := s.toks) kp
  have I2 : Inv X pins σ (upd H h'.objs.size (.frz { cls := .type "tuple", data := .seq its.toArray } (.tup ys))) { s with heap := h'.push { cls := .type "tuple", data := .seq its.toArray } } :=
    I1.laid (t' := s.toks) (fun b o e => Heap.get?_push_of_some _ e) (Nat.le_refl _) (show ObjOk X.prog X.w _ _ _ (.frz _ (.tup ys)) from ⟨Heap.get?_push_size _ rfl, hz, its, r', IsTup.new _ _⟩)
  exact ⟨.ref h'.objs.size, _, I2, rfl, q _ _ (I1.hok.fresh (Nat.le_refl _)) ⟨rfl, rfl⟩⟩
theorem call_dictPT (hcalm : X.calm = true) : CallR X (.type "dict") (fun xs H Q => ∃ (a : Addr) (o : Obj) (ps : List Addr) (kvs : List (Key × V)), xs = [.ref a] ∧ H a = some (.frz o (.tup (ps.map V.ref))) ∧ PlainT o ∧ Paired (fun p kv => SqT X.K H p [kV kv.1, kv.2]) ps kvs ∧
    ∀ p, H p = none → Q (.ref p) (upd H p (.dK (mergeK [] kvs)))) := by
  intro pins s σ H xs us Q I r q
  obtain ⟨a, o, ps, kvs, ex, hq, ⟨hc, hd⟩, hp, q⟩ := q
  subst ex
  obtain ⟨u, eu, rx⟩ := vals1 r
  subst eu
  cases rx
  obtain ⟨ho, hz, its, rv, pl⟩ := I.hok a _ hq
  have ei := refs_at rv
  subst ei
  rw [List.length_map] at hz
  obtain ⟨prs, rel, hl, hpr⟩ := pairs_of I hp
  obtain ⟨o', ho', _, n, hdat⟩ := id pl
  rw [ho] at ho'
  cases ho'
  let vks : List (Value × Value) := (List.range prs.length).map fun j => ((match s.heap.get? (ps.getD j 0) with | some ob => (match ob.data with | .seq its _ => its.getD 0 .none | _ => .none) | none => .none), (prs.getD j (Sum.inl 0, .none)).2)
  have hvk : ∀ (j : Nat) (q' : Key × Value), prs[j]? = some q' → ∃ (b : Addr) (u : Value), ps[j]? = some b ∧ IsTup s.heap b #[u, q'.2] ∧ keyIs q'.1 u = true ∧ vks[j]? = some (u, q'.2) := fun j q' e => by
    obtain ⟨b, u, e1, e2, e3⟩ := hpr j q' e
    refine ⟨b, u, e1, e2, e3, ?_⟩
    have hj : j < prs.length := (List.getElem?_eq_some_iff.mp e).1
    obtain ⟨ob, g1, _, n', g2⟩ := id e2
    have ep : ps.getD j 0 = b := by rw [List.getD_eq_getElem?_getD, e1]; rfl
    have eq : prs.getD j (Sum.inl 0, .none) = q' := by rw [List.getD_eq_getElem?_getD, e]; rfl
    show ((List.range prs.length).map _)[j]? = _
    rw [List.getElem?_map, List.getElem?_range hj]
    show some ((match s.heap.get? (ps.getD j 0) with | some ob => (match ob.data with | .seq its _ => its.getD 0 .none | _ => .none) | none => .none), (prs.getD j (Sum.inl 0, .none)).2) = _
    rw [ep, eq, g1]
    show some ((match ob.data with | .seq its _ => its.getD 0 .none | _ => .none), q'.2) = _
    rw [g2]
    rfl
  have hvl : vks.length = prs.length := by show ((List.range prs.length).map _).length = _; rw [List.length_map, List.length_range]
  have P := PairArg.tuple (prog := X.prog) (w := X.w) a (ps.map Value.ref).toArray (fun j => ps.getD j 0) vks
  refine PySem.call_dict_pairs (knd := mixKind X.prog X.w) (kvs := prs) P (I.ok.hd hcalm) ⟨⟨o, n, ho, hc, hd, hdat⟩, by simp [hvl, hl], fun j k v e => ?_⟩ ⟨hvl.symm, fun i key v e => ?_⟩ (by rw [hvl, hl]; exact hz) fun h' tk hd' k => ?_
  · have hj : j < prs.length := by rw [← hvl]; exact (List.getElem?_eq_some_iff.mp e).1
    obtain ⟨b, u, e1, e2, e3, e4⟩ := hvk j _ (List.getElem?_eq_getElem hj)
    rw [e] at e4
    cases e4
    have ep : ps.getD j 0 = b := by rw [List.getD_eq_getElem?_getD, e1]; rfl
    refine ⟨by simp [e1, ep], ?_⟩
    show PairAt s.heap (ps.getD j 0) _ _
    rw [ep]
    exact .inl e2
  · have e : vks[i]? = some (key, v) := e
    have hj : i < prs.length := by rw [← hvl]; exact (List.getElem?_eq_some_iff.mp e).1
    obtain ⟨b, u, e1, e2, e3, e4⟩ := hvk i _ (List.getElem?_eq_getElem hj)
    rw [e] at e4
    cases e4
    exact ⟨_, List.getElem?_eq_getElem hj, e3⟩
  · have hm : (s.heap.objs.size == sysModules) = false := beq_eq_false_iff_ne.mpr (Nat.ne_of_gt I.big)
    have hlen : (mergeK [] kvs).length ≤ sizeLine := by
      refine Nat.le_trans (length_mergeK kvs []) ?_
      rw [List.length_nil, Nat.zero_add, rel.length, hl]
      exact hz
    exact ⟨.ref s.heap.objs.size, upd H s.heap.objs.size (.dK (mergeK [] kvs)), I.laid (t' := tk) (fun b o e => k b o (by simp) e) (Nat.le_refl _) (show ObjOk X.prog X.w _ _ _ (.dK (mergeK [] kvs)) from ⟨hlen, hm, merged [] prs, KV.merge rel .nil, hd'⟩), rfl, q _ (I.hok.fresh (Nat.le_refl _))⟩
/-- a new tuple, known as it was made -/
def tDFz (K : PySem.W.Frag) (T : TabL) (R : RA) : TE := fun σ H Q => ∃ ρ ds M, Sat K T M H σ ρ ∧ R ρ ds ∧ ∀ p H' vs o, Gr T H H' → H' p = some (.frz o (.tup vs)) → PlainT o → IsDs K (hid H' M) vs ds → Q (.ref p) H'
theorem pe_tupleF {e : Expr} {R : RE} {p pos : Pos} (hg : Gl X "tuple") (hm : X.mg "tuple" = none) (ha : DE X T e R) (he : starEach [e] X.env = (false, eval e X.env) :: starEach [] X.env := by rfl) (hpl : (backTo pos (starEach [] X.env)).any (·.1) = false := by rfl) :
    PE X (.Call (.Name "tuple" p) [e] [] pos) (tDFz X.K T fun ρ ds => R ρ (.list ds)) :=
  pe_weak (pe_callTy call_tuple_ofF hg hm rfl (pa_cons ha pa_nil he) (by decide) (by decide) he hpl) fun σ H Q ⟨ρ, ds, M, S, r, k⟩ => by
    refine tD1 S r fun v H1 g i => ?_
    cases i with
    | @lst a vs _ h t =>
      refine ⟨a, vs, rfl, SqL.of (hid_some h).2, fun l o hl ho => k _ _ _ _ (g.trans (Gr.upd hl)) upd_same ho (t.gr (Gr.upd (T := T) hl))⟩
theorem pe_ifF {B : RB} {R : RA} {R' : RE} {c a b : Expr} {pos : Pos} (hc : DT X T c B) (ha : PE X a (tDFz X.K T R)) (hb : DE X T b R') : PE X (.IfExp c a b pos) (tDFz X.K T fun ρ ds => B ρ true ∧ R ρ ds) := pe_weak (pe_ifExp hc ha hb) fun σ H Q ⟨ρ, ds, M, S, ⟨r1, r2⟩, k⟩ =>
  ⟨ρ, true, M, S, r1, fun H1 g1 => by
    show (if true = true then _ else _)
    rw [if_pos rfl]; exact ⟨ρ, ds, M, S.gr g1, r2, fun p H' vs o g2 => k p H' vs o (g1.trans g2)⟩⟩
/-- the promise of a def that hands back a new tuple -/
abbrev PhiF : Type := List PyData → List PyData → Prop
def spF (K : PySem.W.Frag) (T : TabL) (n : Nat) (φ : PhiF) : Sp := fun vs H Q _ => vs.length = n ∧ ∃ ds es M, Tabs T H ∧ MOk M H ∧ IsDs K (hid H M) vs ds ∧ φ ds es ∧
  ∀ p H' us o, Gr T H H' → H' p = some (.frz o (.tup us)) → PlainT o → IsDs K (hid H' M) us es → Q (.ref p) H'
end
structure PDefF (P : Program) (w : World) (K : PySem.W.Frag) (mg : Str → Option Value) (base : Heap) (T : TabL) (x : Str) (k n : Nat) (φ : PhiF) : Prop where
  ex : ∃ (f : Addr) (fd : FuncData) (ps : List Str), mg x = some (.ref f) ∧ PySem.W.keepIn K (.ref f) = true ∧ Binds K fd ps [] ∧ ps.length = n ∧ FnOk P w K mg base CX0 k f fd ps (spF K T n φ)
theorem dat_start {K : PySem.W.Frag} {T : TabL} {M : List Addr} {H : Hp} {N : List Str} {vs : List V} {ds : List PyData} (tb : Tabs T H) (mk' : MOk M H) (i : IsDs K (hid H M) vs ds) : Sat K T M H (L2.start N vs) (Vk.mk (startE N ds)) := (start_st2 tb mk' i).sat
section
variable {P : Program} {w : World} {K : PySem.W.Frag} {mg : Str → Option Value} {base : Heap} {T : TabL}
theorem PDefF.make {x : Str} {st : Stmt} {N ps : List Str} {k : Nat} {φ : PhiF} {R : RA} (F : Tx K mg x st) (S : FnScope N ps (defScope st)) (hb : BindsSt st x ps)
    (hbody : ∀ (f : Addr) (cdv : Value) (A : Around) (outer : List Env) (s : Shared) (H : Hp) (E : XK), Room k (A.deeper (envOfC x (defScope st) s.heap.objs.size f cdv)) → PSs (XC P w K mg base N x st f cdv A outer s H E) (defBody st) (tRet (tDFz K T R)))
    (hsem : ∀ ds es, ds.length = ps.length → φ ds es → R (Vk.mk (startE N ds)) es) : PDefF P w K mg base T x (k + 1) ps.length φ := by
  obtain ⟨f, fd, hm, F⟩ := F
  refine ⟨f, fd, ps, hm, F.kp, F.binds hb, rfl, F.ok S (fun vs H Q E h => h.1) fun cdv A outer s H vs Q E hr h => ?_⟩
  obtain ⟨hl, ds, es, M, tb, mk', i, ph, q⟩ := h
  exact ⟨_, hbody f cdv A outer s H E hr, _, es, M, dat_start tb mk' i, hsem ds es (by rw [← i.length]; exact hl) ph, q⟩
end
section
variable {X : Cx} {T : TabL}
def rDictT (φ : PhiF) (A : RA) : RE := fun ρ d => ∃ (ds : List PyData) (ks : List Str) (xs : List PyData), A ρ ds ∧ ds.length = 1 ∧ φ ds ((ks.zip xs).map kpair) ∧ ks.length = xs.length ∧ ks.Nodup ∧ d = .dict ((ks.map PyData.str).zip xs)
theorem de_dictT {k k' : Nat} {φ : PhiF} {x y : Str} {p p2 q pos : Pos} {e : Expr} {A : RA} (D : PDefF X.prog X.w X.K X.mg X.base T x k 1 φ) (hc : X.calm = true) (hr : Room k' X.A) (hk : k ≤ k') (hg : Gl X x) (hm : X.mg y = none) (hv : bootBuiltins y = some (.type "dict")) (hgy : Gl X y)
    (ha : DA X T [e] A) (hn : y ≠ "__name__" := by decide) (hdb : (x == ("__debug__" : Str)) = false := by decide) (hdy : (y == ("__debug__" : Str)) = false := by decide)
    (he : starEach [e] X.env = (false, eval e X.env) :: starEach [] X.env := by rfl) (hpl : (backTo q (starEach [] X.env)).any (·.1) = false := by rfl)
    (he' : starEach [.Call (.Name x p) [e] [] q] X.env = (false, eval (.Call (.Name x p) [e] [] q) X.env) :: starEach [] X.env := by rfl) (hpl' : (backTo pos (starEach [] X.env)).any (·.1) = false := by rfl) :
    DE X T (.Call (.Name y p2) [.Call (.Name x p) [e] [] q] [] pos) (rDictT φ A) := by
  obtain ⟨f, fd, ps, hmf, hkp, hb, hn', F⟩ := D.ex
  have hx : Passes CX0 X E0 := pass0
  refine pe_weak (pe_frz (pe_callTy (call_dictPT hc) hgy hm hv (pa_cons (pe_call (E := E0) F (hr.mono hk) hg hmf hkp hb .nil hx ha hdb he hpl) pa_nil he') hn hdy he' hpl')) fun σ H Q ⟨ρ, d, M, S, ⟨ds, ks, xs, r, hl1, ph, hl, nd, ed⟩, kk⟩ => ?_
  subst ed
  refine ⟨ρ, ds, M, S, r, fun vs H1 g1 i1 => ?_⟩
  show spF X.K T 1 φ (vs ++ []) H1 _ E0
  rw [List.append_nil]
  refine ⟨i1.length.trans hl1, ds, _, M, (S.gr g1).tabs, (S.gr g1).msk, i1, ph, fun p H2 us o g2 hp ho iu => ?_⟩
  obtain ⟨as, vs', e1, e2, e3, e4, e5⟩ := pairs_at iu hl
  subst e1
  refine ⟨p, o, as, (ks.map Sum.inr).zip vs', rfl, hp, ho, Paired.mapP e5 fun _ _ z => SqT.of (hid_some z).2, fun q hq => ⟨q, _, rfl, upd_same, trivial, fun od => ?_⟩⟩
  rw [mergeK_zip e2 nd]
  exact kk _ _ ((g1.trans g2).trans (gr_frz hq)) (dik_new ((S.gr (g1.trans g2)).fresh hq) hq e2 e3)
end
end Vk

/-! ## VkBySize -/
set_option Elab.async false
set_option linter.all false
set_option maxRecDepth 100000
set_option maxHeartbeats 2000000
/-! sorted(xs, key=lambda lot: (len(lot), lot)), xs a list or a tuple of tuples of texts. -/
namespace Vk
open PySem PySem.Spec PyProof.Rows PySem.W L2 LamX StX
section
variable {prog : Program} {w : World} {A : Around} {E : Value → Shared → Prop} {s : Shared}
/-- sorted(xs, ..) of a list or a tuple is list.sort(..) on a new list of its items -/
theorem sorted_of_seq {l : Addr} {ty : String} {o : Obj} {n : Nat} {vs : List Value} {kw : List (Str × Value)} {Q : Value → Shared → Prop} (hT : ty = "list" ∨ ty = "tuple") (ho : s.heap.get? l = some o) (hc : o.cls = .type ty) (hd : o.data = .seq vs.toArray n) (hL : vs.length ≤ sizeLine)
    (ha1 : argsOk "sorted" ⟨[.ref l], kw⟩) (ha2 : ∀ x, argsOk "list.sort" ⟨[.ref x], kw⟩)
    (body : ∀ (E' : Value → Shared → Prop) (h1 : Heap), (∀ b o, s.heap.get? b = some o → h1.get? b = some o) → wpAny (model prog w) A.in1.in1 (Builtin.«list.sort» ⟨[.ref h1.objs.size], kw⟩) (fun f s' => f = .done (.ret .none) ∧ Q (.ref h1.objs.size) s') E' { s with heap := h1.push (seqObj "list" vs.toArray 0) }) :
    wpAny (model prog w) A (call (.builtin "sorted") [.ref l] kw) Q E s := by
  refine call_function_entry_kw kind_sorted plain_sorted entry_sorted ha1 ?_
  unfold Builtin.«sorted»
  refine wpAny_bind (m := checkCount "sorted" 1 1 _) (wpAny_pure ?_)
  refine wpAny_bind (PySem.wpAny_collect_seq l hT ho hc hd (fun h1 kp => ?_) (by rw [List.size_toArray]; exact hL))
  have e0 : vs.toArray.toList = vs := by simp
  rw [e0]
  refine wpAny_bind (wpAny_newList ?_ hL)
  show wpAny _ _ _ _ _ { s with heap := h1.push (seqObj "list" vs.toArray 0) }
  refine wpAny_bind (wpAny_holding (wpAny_call_entry_kw slot_list_sort ⟨_, Heap.get?_push_size _ rfl, rfl⟩ entry_list_sort ?body (ha2 _)))
  case body =>
    show wpAny (model prog w) A.in1.in1 (Builtin.«list.sort» ⟨[.ref h1.objs.size], kw⟩) _ _ _
    refine wpAny_mono (body _ h1 kp) (fun f s' hf => ?_) fun _ _ e => e
    obtain ⟨rfl, hq⟩ := hf
    exact ⟨_, rfl, wpAny_pure ⟨_, rfl, hq⟩⟩
/-- (len(lot), lot) -/
theorem lam_body {env : Env} {mg mb m : Str → Option Value} {a : Addr} {its : List Value} {p1 p2 p3 p4 pos : Pos} {kk : Nat} {Q : Value → Shared → Prop} (hk : env.scope.kind = .function) (k1 : env.kindOf "lot" = some .local) (k2 : env.kindOf "len" = some .globalImplicit)
    (hns : s.heap.Ns env.locals m) (hm : m "lot" = some (.ref a)) (hG : s.heap.Ns env.globals mg) (hmg : mg "len" = none) (hB : s.heap.Ns env.builtins mb) (hmb : ∀ x : Str, x ≠ "__name__" → mb x = bootBuiltins x) (ha : IsTup s.heap a its.toArray) (hsz : its.length ≤ 1000000)
    (h : ∀ (tk : Nat) (t : Tok), Q (.ref s.heap.objs.size) { s with heap := s.heap.push { cls := .type "tuple", data := .seq #[.int its.length t, .ref a] }, toks := tk }) :
    wpAny (model prog w) A (eval (.Tuple [.Call (.Name "len" p1) [.Name "lot" p2] [] p3, .Name "lot" p4] kk pos) env) Q E s := by
  have ld : ∀ {s' : Shared} {p : Pos} {E' : Value → Shared → Prop} {Q' : Value → Shared → Prop}, s'.heap = s.heap → Q' (.ref a) s' → wpAny (model prog w) A (eval (.Name "lot" p) env) Q' E' s' := fun {s' p E' Q'} e q => by
    refine wpAny_Name (wpAny_loadName_local hk k1 (by rw [e]; exact hns) hm q) (by decide)
  refine wpAny_Tuple_spliced ?_
  refine PyProof.Rows.args_cons ?_ rfl
  refine wpAny_Call_Name_kw (Calls.Name_function_global hk k2 (Calls.loadGlobal_builtin hG hmg hB ((hmb _ (by decide)).trans (show bootBuiltins "len" = some (.builtin "len") from rfl)) ?_) (by decide))
  refine PyProof.Rows.callWith_builtin1 (PyProof.Rows.args_cons (ld rfl (PyProof.Rows.args_nil ?_)) rfl) rfl rfl
  refine len_tuple ha (by rw [List.size_toArray]; have := hsz; omega) ?_
  refine PyProof.Rows.args_cons (ld rfl (PyProof.Rows.args_nil ?_)) rfl
  refine ⟨line_of (by simp), ?_⟩
  have := h (s.toks + 1 + 1) (s.toks + 1)
  simpa using this
end
section
variable {prog : Program} {w : World} {A : Around} {s : Shared}
theorem reads_strs {h : Heap} : ∀ {vs : List Value} {xs : KS}, Vals (xs.map V.str) vs → ReadsAll h vs (xs.map .str) []
  | [], [], _ => .nil
  | [], x :: xs, r => by cases r
  | v :: vs, [], r => by cases r
  | v :: vs, x :: xs, r => by
    rw [List.map_cons] at r
    cases r with
    | cons h t =>
      obtain ⟨t', rfl⟩ := h
      exact ReadsAll.cons (as := []) (.str x t') (reads_strs t)
/-- the key of a tuple of texts -/
def keyS (xs : KS) : PyData := .tuple [.int xs.length, dS xs]
theorem lam_turn {f c' a : Addr} {q : Str} {params : Arguments} {scope : Scope} {pm ctv : Value} {mg mb : Str → Option Value} {its : List Value} {xs : KS} {p1 p2 p3 p4 pos : Pos} {kk : Nat} (hd : A.depth < recursionLimit)
    (hf : s.heap.get? f = some (kla_obj "<lambda>" q params (.Tuple [.Call (.Name "len" p1) [.Name "lot" p2] [] p3, .Name "lot" p4] kk pos) scope [] pm c' ctv))
    (hco : ∃ (oc : Obj) (vs : Array Value) (t : Tok), s.heap.get? c' = some oc ∧ oc.data = .fields vs ∧ vs[1]? = some (.str q t))
    (kd : scope.kind = .function) (co : scope.isCoroutine = false) (gen : scope.isGenerator = false) (hcell : ∀ x ∈ scope.names, x.2 ≠ .cell) (k1 : scope.names.lookup (Str.ofString "lot") = some .local) (k2 : scope.names.lookup (Str.ofString "len") = some .globalImplicit)
    (hbind : ∀ v, bindArgs (kla_fn "<lambda>" q params (.Tuple [.Call (.Name "len" p1) [.Name "lot" p2] [] p3, .Name "lot" p4] kk pos) scope [] pm (.ref c') ctv) ⟨[v], []⟩ = pure [(Str.ofString "lot", v)])
    (hG : s.heap.Ns mainGlobals mg) (hmg : mg "len" = none) (hB : s.heap.Ns builtinsNs mb) (hmb : ∀ x : Str, x ≠ "__name__" → mb x = bootBuiltins x) (lim : s.heap.NoLimit) (ha : IsTup s.heap a its.toArray) (hi : Vals (xs.map V.str) its) (hsz : xs.length ≤ 1000000) :
    wpAny (model prog w) A (call (.ref f) [.ref a]) (KeyPure (keyS xs) s) (fun _ _ => False) s := by
  obtain ⟨oc, vs, t, hoc, hdc, hvc⟩ := hco
  have hlen : its.length = xs.length := by rw [← hi.length, List.length_map]
  refine wpAny_call (kla_callFunE hd hf rfl co gen rfl ⟨c', oc, vs, t, rfl, hoc, hdc, hvc⟩ ?_)
  rw [hbind]
  refine wpAny_pure (wpAny_newFunctionEnv hcell (fun y hy => by
    rcases List.mem_cons.mp hy with rfl | hy
    · exact k1
    · cases hy) (fun h₁ hns hsb => ⟨lim.fresh _ hsb, ?_⟩) kd)
  have kp : ∀ b o, s.heap.get? b = some o → h₁.get? b = some o := fun b o e => hsb.extBut b o (Nat.ne_of_lt (Heap.lt_size e)) (Heap.get?_push_of_some _ e)
  refine kla_codeExpr (lam_body (m := fun x => [(Str.ofString "lot", Value.ref a)].reverse.lookup x) (s := { s with heap := h₁, toks := s.toks + 1 }) kd k1 k2 hns (by rfl) (hG.keeps kp) hmg (hB.keeps kp) hmb (its := its) ?_ (by rw [hlen]; exact hsz) fun tk t' => ?_)
  · obtain ⟨o, e, r⟩ := ha
    exact ⟨o, kp _ _ e, r⟩
  · refine ⟨h₁.push { cls := .type "tuple", data := .seq #[.int its.length t', .ref a] }, tk, rfl, fun b o e => Heap.get?_push_of_some _ (kp b o e), ?_⟩
    obtain ⟨o, e, hc, n, hd'⟩ := ha
    have rt : Reads (h₁.push { cls := .type "tuple", data := .seq #[.int its.length t', .ref a] }) (.ref a) (dS xs) [] := Reads.tuple (Heap.get?_push_of_some _ (kp _ _ e)) hc hd' (by simpa using reads_strs hi)
    rw [show keyS xs = .tuple [.int its.length, dS xs] by unfold keyS; rw [hlen]]
    exact Reads.tuple (Heap.get?_push_size _ rfl) rfl rfl (ReadsAll.cons (as := []) (bs := []) (.int _ _) (ReadsAll.cons (as := []) (bs := []) rt .nil))
end
/-! ### the order -/
def bLe (a b : KS) : Bool := if a.length = b.length then tupLe a b else decide (a.length < b.length)
def keyD : PyData → PyData
  | .tuple xs => .tuple [.int xs.length, .tuple xs]
  | d => d
theorem keyD_dS (a : KS) : keyD (dS a) = keyS a := by
  unfold dS keyS
  show PyData.tuple [.int (a.map PyData.str).length, .tuple (a.map PyData.str)] = _
  rw [List.length_map]; rfl
theorem eqv_dS (a b : KS) : PyData.eqv (dS a) (dS b) = true ↔ a = b := by
  have key : ∀ a b : KS, PyData.eqvAll (a.map .str) (b.map .str) = true ↔ a = b := by
    intro a
    induction a with
    | nil => intro b; cases b <;> simp [PyData.eqvAll]
    | cons x a ih =>
      intro b
      cases b with
      | nil => simp [PyData.eqvAll]
      | cons y b => simp [PyData.eqvAll, PyData.eqv, ih]
  unfold dS
  rw [PyData.eqv]
  exact key a b
theorem bLe_data (a b : KS) : dataLe false keyD (dS a) (dS b) = bLe a b := by
  rw [dataLe_eq]
  show (!dataLt (keyD (dS b)) (keyD (dS a))) = bLe a b
  rw [keyD_dS, keyD_dS]
  unfold keyS
  rw [dataLt_pair (by simp [alike]) (alike_dS b a), dataLt_int]
  unfold bLe
  by_cases c : a.length = b.length
  · rw [if_pos c, if_pos (by simp [PyData.eqv, c])]
    have e : dataLt (dS b) (dS a) = tupLt b a := by
      have := tupLe_data a b
      rw [dataLe_eq] at this
      have h2 : (!dataLt (dS b) (dS a)) = (!tupLt b a) := this
      simpa using h2
    rw [e]
    by_cases c2 : b = a
    · rw [if_pos ((eqv_dS b a).2 c2), c2]
      have : ∀ l : KS, tupLt l l = false := by
        intro l
        induction l with
        | nil => rfl
        | cons x l ih => simp [tupLt, ih]
      simp [tupLe, this]
    · rw [if_neg (fun z => c2 ((eqv_dS b a).1 z))]; rfl
  · rw [if_neg c, if_neg (by simp only [PyData.eqv, beq_iff_eq]; omega)]
    have : decide (a.length < b.length) = !decide ((b.length : Int) < (a.length : Int)) := by
      by_cases h : a.length < b.length
      · simp [h]; omega
      · simp [h]; omega
    rw [this]
theorem bLe_total : TotalLe bLe := by
  have := sortLe_total (listOrd itemOrd) false fun x : KS => keyToks (keyD (dS x))
  have e : (sortLe (listOrd itemOrd) false fun x : KS => keyToks (keyD (dS x))) = bLe := funext fun x => funext fun y => bLe_data x y
  rwa [e] at this
theorem bLe_anti (a b : KS) (h1 : bLe a b = true) (h2 : bLe b a = true) : a = b := by
  unfold bLe at h1 h2
  by_cases c : a.length = b.length
  · rw [if_pos c] at h1
    rw [if_pos c.symm] at h2
    exact tupLe_anti a b h1 h2
  · rw [if_neg c] at h1
    rw [if_neg (Ne.symm c)] at h2
    have := of_decide_eq_true h1
    have := of_decide_eq_true h2
    omega
def bsort (F : FM) : FM := isort bLe F
theorem sortK_enc {α : Type} {le : α → α → Bool} {enc : α → PyData} {k : PyData → PyData} (t : TotalLe le) (as : ∀ a b, le a b = true → le b a = true → a = b) (he : ∀ a b, dataLe false k (enc a) (enc b) = le a b) (l : List α) : (l.map enc).mergeSort (dataLe false k) = (isort le l).map enc := by
  have e1 : (l.map enc).mergeSort (dataLe false k) = (l.mergeSort le).map enc := (sort_maps (r := le) (s := dataLe false k) enc fun a _ b _ => (he a b).symm).symm
  rw [e1]
  congr 1
  exact List.Perm.eq_of_pairwise (fun a b _ _ => as a b) (sort_pairwise t l) (isort_sorted t l) ((List.mergeSort_perm _ _).trans (isort_perm le l).symm)
theorem sortK_by (F : FM) : (F.map dS).mergeSort (dataLe false keyD) = (bsort F).map dS := sortK_enc bLe_total bLe_anti bLe_data F
theorem alike_keyS (a b : KS) : alike (keyS a) (keyS b) = true := by
  have h : alike (dS a) (dS b) = true := alike_dS a b
  simp [keyS, alike, alikeAll, h]
/-! ### the rule -/
theorem obj_some {P : Program} {w : World} {H : Hp} {h : Heap} {a : Addr} {o : HO} (x : ObjOk P w H h a o) : ∃ ob, h.get? a = some ob := by
  cases o with
  | lst xs => obtain ⟨_, _, _, _, e⟩ := x; exact ⟨_, e⟩
  | tup xs => obtain ⟨_, _, _, o, e, _⟩ := x; exact ⟨_, e⟩
  | dK kvs => obtain ⟨_, _, _, _, o, _, _, e, _⟩ := x; exact ⟨_, e⟩
  | dT kvs => obtain ⟨_, _, _, _, o, _, _, e, _⟩ := x; exact ⟨_, e⟩
  | set S n => obtain ⟨o, _, _, _, e, _⟩ := x; exact ⟨_, e⟩
  | ins C dx fs => obtain ⟨_, _, _, e, _⟩ := x; exact ⟨_, e⟩
  | own y => exact x
  | xd fs => obtain ⟨_, ⟨_, _, _, e, _⟩, _⟩ := x; exact ⟨_, e⟩
  | rng lo hi => obtain ⟨_, _, _, e⟩ := x; exact ⟨_, e⟩
  | frz ob u => obtain ⟨e, _⟩ := x; exact ⟨_, e⟩
  | tbl ps => exact ⟨_, show h.get? a = some _ from x⟩
  | met f y => exact ⟨_, show h.get? a = some _ from x⟩
  | ext φ => obtain ⟨_, e, _⟩ := x; exact e
theorem sset_endN {X : Cx} {T : TabL} {pins : List (Addr × Obj)} {σ : L2.St} {H : Hp} {M : List Addr} {s s' : Shared} {Q : VK} {p : Addr} {out : Array Value} {c : Nat} {zs : List (V × PyData)} {d : List PyData} (I : Inv X pins σ H s) (mk : MOk M H)
    (k : ∀ b o, s.heap.get? b = some o → s'.heap.get? b = some o) (g : s'.gens = s.gens) (o : s'.os = s.os) (hp : s.heap.get? p = none) (hg : s'.heap.get? p = some (seqObj "list" out c)) (hL : zs.length ≤ sizeLine)
    (e : EachIs RVP out.toList zs) (hz : ∀ q ∈ zs, IsD X.K (hid H M) q.1 q.2) (ed : zs.map Prod.snd = d) (q : ∀ v H', Gr T H H' → IsD X.K (hid H' M) v (.list d) → Q v H') : EP X pins σ Q (.ref p) s' := by
  subst ed
  have hn : H p = none := by
    cases e : H p with
    | none => rfl
    | some u =>
      obtain ⟨ob, e2⟩ := obj_some (I.hok p u e)
      rw [hp] at e2
      cases e2
  have hv := each_vals e
  have J : Inv X pins σ (upd H p (.lst (zs.map Prod.fst))) { s with heap := s'.heap, gens := s'.gens, drawn := s'.drawn, toks := s'.toks } :=
    I.call (ch := []) (Un.laidN k hp hn) (I.hok.laidN k hn ⟨by rw [List.length_map]; exact hL, out.toList, c, hv, hg⟩) (by rw [g]; exact I.bare) (fun _ z => nomatch z)
  have es : s' = { s with heap := s'.heap, gens := s'.gens, drawn := s'.drawn, toks := s'.toks } := by
    cases s'
    cases s
    cases o
    rfl
  rw [es]
  exact ⟨.ref p, _, J, rfl, q _ _ (Gr.upd hn) (new_lst (msk_fresh mk hn) hn (isDs_of hz))⟩
def rBySize (R : RE) : RE := fun ρ z => ∃ (d : PyData) (F : FM), R ρ d ∧ seqOf d = some (F.map dS) ∧ F.length ≤ 100000 ∧ (∀ k ∈ F, k.length ≤ 1000000) ∧ z = lF (bsort F)
theorem isDs_mem {K : PySem.W.Frag} {H : Hp} {vs : List V} {ds : List PyData} (t : IsDs K H vs ds) {p : V × PyData} (hp : p ∈ vs.zip ds) : IsD K H p.1 p.2 := isDs_zip t p hp
section
variable {X : Cx} {T : TabL}
theorem de_bysize {e : Expr} {R : RE} {params : Arguments} {scope : Scope} {p p1 p2 p3 p4 tp lpos kpos pos : Pos} {kk : Nat} {c Pt : Addr} (hcalm : X.calm = true) (hr : Room 2 X.A) (hg : Gl X "sorted") (hm : X.mg "sorted" = none) (hml : X.mg "len" = none) (ha : DE X T e R)
    (TB : TabB X.base X.mg c Pt) (hcode : X.env.code = .ref c) (hmT : (Pt, X.env.qual ++ "<lambda>") ∈ T) (hu : ∀ p ∈ T, p.1 = Pt → p.2 = X.env.qual ++ "<lambda>") (hdef : defaultsOf params X.env = ([], []))
    (kd : scope.kind = .function) (co : scope.isCoroutine = false) (gen : scope.isGenerator = false) (hcell : ∀ x ∈ scope.names, x.2 ≠ .cell) (hfree : ∀ y ∈ scope.names, y.2 ≠ .free) (k1 : scope.names.lookup (Str.ofString "lot") = some .local) (k2 : scope.names.lookup (Str.ofString "len") = some .globalImplicit)
    (hcl : cloFrom X.env.cells scope.names [] = [])
    (hbind : ∀ (q : Str) (pm : Value) (c' : Addr) (ctv v : Value), bindArgs (kla_fn "<lambda>" q params (.Tuple [.Call (.Name "len" p1) [.Name "lot" p2] [] p3, .Name "lot" p4] kk tp) scope [] pm (.ref c') ctv) ⟨[v], []⟩ = pure [(Str.ofString "lot", v)])
    (he : backTo pos (starEach [e] X.env) = (false, eval e X.env) :: backTo pos (starEach [] X.env) := by rfl) (hpl : (backTo pos (starEach [e] X.env)).any (·.1) = false := by rfl) (na : starEach [e] X.env = (false, eval e X.env) :: starEach [] X.env := by rfl)
    (hall : (backToKw pos (keywordEach [⟨some (Str.ofString "key"), .Lambda params (.Tuple [.Call (.Name "len" p1) [.Name "lot" p2] [] p3, .Name "lot" p4] kk tp) scope lpos, kpos⟩] X.env)).all (·.1.isSome) = true := by rfl)
    (hkw : (backToKw pos (keywordEach [⟨some (Str.ofString "key"), .Lambda params (.Tuple [.Call (.Name "len" p1) [.Name "lot" p2] [] p3, .Name "lot" p4] kk tp) scope lpos, kpos⟩] X.env)).any (·.1.isNone) = false := by rfl) :
    DE X T (.Call (.Name "sorted" p) [e] [⟨some (Str.ofString "key"), .Lambda params (.Tuple [.Call (.Name "len" p1) [.Name "lot" p2] [] p3, .Name "lot" p4] kk tp) scope lpos, kpos⟩] pos) (rBySize R) := by
  refine ⟨fun pins s σ H Q I h => ?_⟩
  obtain ⟨ρ, z, M, S, ⟨d, F, r, es, hl, hk, ez⟩, k⟩ := h
  subst ez
  refine wpAny_Call_Name_kw (ld_blt I hg hm (show bootBuiltins "sorted" = some (.builtin "sorted") from rfl) ?_)
  refine PyProof.Rows.callWith_kw (thn ((pa_cons ha pa_nil na).run pos pins s σ H (fun vs H1 => ∃ v, vs = [v] ∧ Gr T H H1 ∧ IsD X.K (hid H1 M) v d) I (tD1 S r fun v H1 g i => ⟨v, rfl, g, i⟩)) fun us s1 ⟨vs, H1, I1, rv, v, ev, g1, i1⟩ => ?_) he hpl hall hkw
  subst ev
  obtain ⟨u, rfl, rx⟩ := vals1 rv
  have S1 := S.gr g1
  show wpAny _ _ (evalAll [do let v ← eval (.Lambda params (.Tuple [.Call (.Name "len" p1) [.Name "lot" p2] [] p3, .Name "lot" p4] kk tp) scope lpos) X.env; standAt pos; pure v]) _ _ s1
  refine wpAny_evalAll_cons (wpAny_bind (lam_make2 I1 TB hcode hmT hu S1.tabs hdef (fun y hy e => absurd e (hfree y hy)) fun f c' pm ctv H2 s2 I2 eN T2 hf hfn hfr hco => wpAny_bind (wpAny_standAt (wpAny_pure (wpAny_evalAll_nil ?_)))))
  have g2 : Gr T H1 H2 := ⟨eN, fun _ => T2⟩
  have S2 := S1.gr g2
  have i2 := i1.gr g2
  obtain ⟨l, vs, rfl, hq, t⟩ := seq_parts i2 es
  cases rx
  obtain ⟨its, rv2, pl⟩ := seq_raw I2 hq
  have hlen := t.length
  rw [List.length_map] at hlen
  have hlen2 := rv2.length
  have hits : its.length = F.length := by omega
  rw [hcl] at hf
  have hbs : EachIs RVP its (vs.zip (F.map dS)) := each_zip (R := fun _ _ => True) (B := F.map dS) rv2 (by rw [List.length_map]; exact hlen)
  have hsnd : (vs.zip (F.map dS)).map Prod.snd = F.map dS := map_snd_zip (by rw [List.length_map]; exact hlen)
  have hkeys : (vs.zip (F.map dS)).map (keyD ∘ Prod.snd) = F.map keyS := by
    rw [← List.map_map, hsnd, List.map_map]
    exact List.map_congr_left fun a _ => keyD_dS a
  have hal : AllAlike ((vs.zip (F.map dS)).map (keyD ∘ Prod.snd)) := by rw [hkeys]; exact AllAlike.of alike_keyS
  have hsk : Sortable ((vs.zip (F.map dS)).map (keyD ∘ Prod.snd)) := by
    rw [hkeys]
    refine .inl fun d hd => ?_
    obtain ⟨a, _, rfl⟩ := List.mem_map.mp hd
    exact ⟨_, _, rfl⟩
  obtain ⟨ty, o, n, hT, ho, hc, hd⟩ : ∃ ty o n, (ty = "list" ∨ ty = "tuple") ∧ s2.heap.get? l = some o ∧ o.cls = .type ty ∧ o.data = .seq its.toArray n := by
    rcases pl with ⟨o, ho, hc, n, hd⟩ | ⟨o, ho, hc, n, hd⟩
    · exact ⟨_, o, n, .inl rfl, ho, hc, hd⟩
    · exact ⟨_, o, n, .inr rfl, ho, hc, hd⟩
  show wpAny (model X.prog X.w) X.A (call (.builtin "sorted") [.ref l] [(Str.ofString "key", .ref f)]) _ _ s2
  have hF : F.length ≤ sizeLine := line_of (by omega)
  refine sorted_of_seq hT ho hc hd (by rw [hits]; exact hF) (ksk_s1 _ _) (fun _ => ksk_l1 _ _) fun E' h1 kp1 => ?_
  rw [ksk_t1]
  have hbl : (vs.zip (F.map dS)).length = its.length := by rw [List.length_zip, List.length_map]; omega
  have hdep : X.A.in1.in1.depth < recursionLimit := hr.depth
  have old : ∀ {h3 : Heap}, KeepsBut h1.objs.size (h1.push (seqObj "list" its.toArray 0)) h3 → ∀ b o, s2.heap.get? b = some o → h3.get? b = some o := fun {h3} kp b o e =>
    kp b o (Nat.ne_of_lt (Heap.lt_size (kp1 _ _ e))) (Heap.get?_push_of_some _ (kp1 _ _ e))
  refine keyH_tree (kz := (vs.zip (F.map dS)).map (keyD ∘ Prod.snd)) (s := { s2 with heap := h1.push (seqObj "list" its.toArray 0) }) (Heap.get?_push_size _ rfl) (by rw [List.length_map]; exact hbl) (by rw [hits]; exact hF) hal hsk (fun d hd' => ?_)
    (keyH_turns (s := { s2 with heap := h1.push (seqObj "list" its.toArray 0) }) hbs fun v x hR hx h3 tk kp3 => ?_) fun h' tk out c kp hD ko => ⟨rfl, ?_⟩
  · rw [hkeys] at hd'
    obtain ⟨a, _, rfl⟩ := List.mem_map.mp hd'
    have hdp : (keyS a).depth ≤ 2 := by
      have := depth_dS a
      simp only [keyS, PyData.depth, PyData.depthAll]
      omega
    have := hr.un
    show X.A.units + 2 + _ < _
    omega
  · have hx2 : x.2 ∈ F.map dS := (List.of_mem_zip hx).2
    obtain ⟨a, haF, ea⟩ := List.mem_map.mp hx2
    have ix := isDs_mem t hx
    rw [← ea] at ix
    have ix' : IsD X.K (hid H2 M) x.1 (.tuple (a.map .str)) := ix
    have hR' : RelV x.1 v := hR
    cases hxv : x.1 with
    | ref al =>
      rw [hxv] at ix' hR'
      cases ix' with
      | @tup _ ws _ hal' tt =>
        cases hR'
        obtain ⟨its3, rv3, pl3, _⟩ := I2.tuple (SqT.of (K := X.K) (hid_some hal').2)
        rw [tt.strs] at rv3
        have kp' := old kp3
        obtain ⟨o3, e3, r3⟩ := pl3
        obtain ⟨mb, b1, b2⟩ := I2.mod.blt
        obtain ⟨⟨oc, vc, tq, hoc, hdc, hvc⟩, _, _⟩ := I2.hok c' _ hco
        have hkx : keyD x.2 = keyS a := by rw [← ea]; exact keyD_dS a
        show wpAny _ _ _ (KeyPure (keyD x.2) _) _ _
        rw [hkx]
        exact lam_turn (s := { s2 with heap := h3, toks := tk }) hdep (kp' _ _ hf) ⟨oc, vc, tq, kp' _ _ hoc, hdc, hvc⟩ kd co gen hcell k1 k2 (fun v => hbind _ _ _ _ v) ((I2.mod.glob.keeps I2.bk).keeps kp') hml ((b1.keeps I2.bk).keeps kp') b2 (I2.nolimit.keeps kp') ⟨o3, kp' _ _ e3, r3⟩ rv3 (hk a haF)
    | _ => rw [hxv] at ix'; cases ix'
  · have key := keyedOut_each (R := RVP) (keyD ∘ Prod.snd) ko hbs
    have hpm : ((vs.zip (F.map dS)).mergeSort (dataLe false (keyD ∘ Prod.snd))).Perm (vs.zip (F.map dS)) := List.mergeSort_perm _ _
    refine sset_endN (T := T) (M := M) (s := s2) (c := c) (out := out.toArray) I2 S2.msk (old kp) rfl rfl ?_ hD (by rw [hpm.length_eq, hbl, hits]; exact hF) (by simpa using key) (fun q hq => isDs_mem t (hpm.mem_iff.mp hq)) ?_ fun v H' g i => k v H' ((g1.trans g2).trans g) i
    · cases e : s2.heap.get? h1.objs.size with
      | none => rfl
      | some ob => exact absurd (Heap.lt_size (kp1 _ _ e)) (Nat.lt_irrefl _)
    · rw [sort_maps (r := dataLe false (keyD ∘ Prod.snd)) (s := dataLe false keyD) Prod.snd (fun a _ b _ => rfl), hsnd, sortK_by]
end
end Vk

/-! ## VkBySizeB -/
set_option Elab.async false
set_option linter.all false
set_option maxRecDepth 100000
set_option maxHeartbeats 1000000
/-! by_size's body. -/
namespace Vk
open PySem PySem.Spec PyProof.Rows L2 LamX StX
def qBy : Str := "by_size.<locals>.<lambda>"
section
variable {P : Program} {w : World} {K : PySem.W.Frag} {mg : Str → Option Value} {base : Heap} {T : TabL}
theorem PDef.makeC {x : Str} {st : Stmt} {N ps : List Str} {k : Nat} {c : Addr} {φ : Phi} {W : W2} (F : ∃ (f : Addr) (fd : FuncData), mg x = some (.ref f) ∧ Fun K x x st f fd ∧ fd.code = .ref c) (S : FnScope N ps (defScope st)) (hb : BindsSt st x ps)
    (hbody : ∀ (f : Addr) (A : Around) (outer : List Env) (s : Shared) (H : Hp) (E : XK), Room k (A.deeper (envOfC x (defScope st) s.heap.objs.size f (.ref c))) → DSs (XC P w K mg base N x st f (.ref c) A outer s H E) T (defBody st) W)
    (hsem : ∀ ds d, ds.length = ps.length → φ ds d → W (fun _ => d = .none) (fun y => y = d) (startE N ds)) : PDef P w K mg base T x (k + 1) ps.length φ := by
  obtain ⟨f, fd, hm, F, hcd⟩ := F
  have hbn := F.binds hb
  have hkp := F.kp
  obtain ⟨oc, od, kV, doc, pm, an, cdv, ct, osl, rfl, lk, hcdI⟩ := F.ex
  have ecd : cdv = .ref c := hcd
  subst ecd
  refine ⟨f, _, ps, hm, hkp, hbn, rfl, fn_of lk hcdI S (fun vs H Q E h => h.1) fun A outer s H vs Q E hr h => ?_⟩
  obtain ⟨hl, ds, d, M, tb, mk, i, ph, q⟩ := h
  have q2 : tS K T W { nx := fun _ H' => Q .non H', rt := Q } (L2.start N vs) H := by
    refine ⟨M, M, _, _, _, start_st2 tb mk i, hsem ds d (by rw [← i.length]; exact hl) ph, fun σ' H' M' ε' fr S' e => ?_, fun v H' M' d' fr iv e => ?_⟩
    · subst e
      exact q _ H' fr.out .non
    · subst e
      exact q v H' fr.out iv
  have hb' := hbody f A outer s H E hr
  have hb2 : PSs (cxOf CX0 P w K mg base N x (defScope st) f (.ref c) A outer s H E).nox (defBody st) (tS K T W) := hb'
  exact ⟨_, hb2.nox, q2⟩
theorem sc_by_size : FnScope ["sets"] ["sets"] (defScope s_by_size) := ⟨rfl, rfl, rfl, by decide +kernel, rfl, by decide +kernel, by decide +kernel⟩
theorem bd_by_size : BindsSt s_by_size "by_size" ["sets"] := fun _ _ _ _ _ _ us hl => match us, hl with | [_], _ => rfl
def w_by_size : W2 := wRet (rBySize (rVar 0))
theorem body_by_size {c Pt : Addr} (B : Bl mg) (hm : (Pt, qBy) ∈ T) (hu : ∀ p ∈ T, p.1 = Pt → p.2 = qBy) (TB : TabB base mg c Pt) (f : Addr) (A : Around) (outer : List Env) (s : Shared) (H : Hp) (E : XK)
    (hr : Room 3 (A.deeper (envOfC "by_size" (defScope s_by_size) s.heap.objs.size f (.ref c)))) : DSs (XC P w K mg base ["sets"] "by_size" s_by_size f (.ref c) A outer s H E) T (defBody s_by_size) w_by_size := by
  have hr2 := hr.mono (show 2 ≤ 3 by decide)
  have q : (XC P w K mg base ["sets"] "by_size" s_by_size f (.ref c) A outer s H E).env.qual ++ "<lambda>" = qBy := show ((("by_size" : Str) ++ (".<locals>." : Str)) ++ ("<lambda>" : Str) : Str) = qBy by decide +kernel
  exact dss_one (ds_ret (de_bysize (c := c) (Pt := Pt) rfl hr2 (by rfl) B.sorted_ B.len_ (de_var (pv 0)) TB rfl (by rw [q]; exact hm) (by rw [q]; exact hu) rfl rfl rfl rfl (by decide +kernel) (by decide +kernel) rfl rfl rfl (fun _ _ _ _ _ => rfl)))
end
end Vk

/-! ## VkLaw -/
set_option Elab.async false
set_option linter.all false
set_option maxRecDepth 100000
set_option maxHeartbeats 1000000
/-! The plain law: families of sets, least families, barriers. No program in sight. -/
namespace Vk
open PySem PySem.Spec PyProof.Rows PySem.W
/-! ### sets and families -/
def subB (a b : KS) : Bool := a.all fun x => decide (x ∈ b)
def meetB (a b : KS) : Bool := a.any fun x => decide (x ∈ b)
def opB (F : FM) (h : KS) : Bool := F.any fun o => subB o h
theorem subB_iff {a b : KS} : subB a b = true ↔ ∀ x ∈ a, x ∈ b := by
  unfold subB; rw [List.all_eq_true]; exact ⟨fun h x hx => of_decide_eq_true (h x hx), fun h x hx => decide_eq_true (h x hx)⟩
theorem meetB_iff {a b : KS} : meetB a b = true ↔ ∃ x ∈ a, x ∈ b := by
  unfold meetB; rw [List.any_eq_true]; exact ⟨fun ⟨x, hx, h⟩ => ⟨x, hx, of_decide_eq_true h⟩, fun ⟨x, hx, h⟩ => ⟨x, hx, decide_eq_true h⟩⟩
theorem opB_iff {F : FM} {h : KS} : opB F h = true ↔ ∃ o ∈ F, ∀ x ∈ o, x ∈ h := by
  unfold opB; rw [List.any_eq_true]; exact ⟨fun ⟨o, ho, e⟩ => ⟨o, ho, subB_iff.1 e⟩, fun ⟨o, ho, e⟩ => ⟨o, ho, subB_iff.2 e⟩⟩
theorem meetB_comm (a b : KS) : meetB a b = meetB b a := by
  apply Bool.eq_iff_iff.mpr
  rw [meetB_iff, meetB_iff]
  exact ⟨fun ⟨x, h1, h2⟩ => ⟨x, h2, h1⟩, fun ⟨x, h1, h2⟩ => ⟨x, h2, h1⟩⟩
/-- a set as it is laid: sorted, no key twice -/
abbrev Cn (a : KS) : Prop := Sd strLe a
theorem cn_ext {a b : KS} (ha : Cn a) (hb : Cn b) (h : ∀ x, x ∈ a ↔ x ∈ b) : a = b := sd_ext strLe_anti ha hb h
theorem cn_sset (l : KS) : Cn (sset l) := canon_sd strLe_total l
theorem sset_cn {l : KS} (h : Cn l) : sset l = l := cn_ext (cn_sset l) h fun x => sset_mem
theorem cn_nil : Cn [] := ⟨List.nodup_nil, List.Pairwise.nil⟩
/-- a family of laid sets -/
abbrev CnF (F : FM) : Prop := ∀ a ∈ F, Cn a
/-- none lies within another -/
def Anti (F : FM) : Prop := ∀ a ∈ F, ∀ b ∈ F, (∀ x ∈ a, x ∈ b) → a = b
structure Least (F : FM) : Prop where
  cn : CnF F
  anti : Anti F
  sd : Sd tupLe F
/-- a least family is known by what it opens -/
theorem least_ext {F G : FM} (hF : Least F) (hG : Least G) (h : ∀ k, opB F k = opB G k) : F = G := by
  have key : ∀ {F G : FM}, Least F → Least G → (∀ k, opB F k = opB G k) → ∀ a ∈ F, a ∈ G := by
    intro F G hF hG h a ha
    obtain ⟨b, hb, hba⟩ := opB_iff.1 ((h a).symm.trans (opB_iff.2 ⟨a, ha, fun x hx => hx⟩))
    obtain ⟨c, hc, hcb⟩ := opB_iff.1 ((h b).trans (opB_iff.2 ⟨b, hb, fun x hx => hx⟩))
    have e := hF.anti c hc a ha fun x hx => hba x (hcb x hx)
    subst e
    have : c = b := cn_ext (hF.cn c hc) (hG.cn b hb) fun x => ⟨hcb x, hba x⟩
    rw [this]; exact hb
  exact sd_ext tupLe_anti hF.sd hG.sd fun x => ⟨key hF hG h x, key hG hF (fun k => (h k).symm) x⟩

/-! ### the least sets of a family -/
def lsStep (found : FM) (lot : KS) : FM := if found.any (fun own => subB own lot) then found else found ++ [lot]
def lsList (F : FM) : FM := F.foldl lsStep []
def leastP (F : FM) : FM := isort tupLe (lsList (bsort (tset F)))
theorem lsStep_mem {found : FM} {lot a : KS} (h : a ∈ lsStep found lot) : a ∈ found ∨ a = lot := by
  unfold lsStep at h
  split at h
  · exact .inl h
  · rcases List.mem_append.mp h with h | h
    · exact .inl h
    · exact .inr (List.mem_singleton.mp h)
theorem foldl_mem : ∀ {L found : FM} {a : KS}, a ∈ L.foldl lsStep found → a ∈ found ∨ a ∈ L
  | [], found, a, h => .inl h
  | lot :: L, found, a, h => by
    rcases foldl_mem (L := L) h with h | h
    · rcases lsStep_mem h with h | h
      · exact .inl h
      · exact .inr (h ▸ List.mem_cons_self)
    · exact .inr (List.mem_cons_of_mem _ h)
theorem lsStep_keep {found : FM} {lot a : KS} (h : a ∈ found) : a ∈ lsStep found lot := by
  unfold lsStep
  split
  · exact h
  · exact List.mem_append_left _ h
theorem foldl_keep : ∀ {L found : FM} {a : KS}, a ∈ found → a ∈ L.foldl lsStep found
  | [], _, _, h => h
  | lot :: L, found, a, h => foldl_keep (L := L) (lsStep_keep h)
/-- each lot has one of the found ones within it -/
theorem foldl_cover : ∀ {L found : FM} {a : KS}, a ∈ L → ∃ b ∈ L.foldl lsStep found, ∀ x ∈ b, x ∈ a
  | lot :: L, found, a, h => by
    rcases List.mem_cons.mp h with e | h
    · subst e
      by_cases c : found.any (fun own => subB own a) = true
      · obtain ⟨b, hb, e⟩ := List.any_eq_true.mp c
        exact ⟨b, foldl_keep (L := L) (lsStep_keep hb), subB_iff.1 e⟩
      · refine ⟨a, foldl_keep (L := L) ?_, fun x hx => hx⟩
        unfold lsStep
        rw [if_neg c]
        exact List.mem_append_right _ List.mem_cons_self
    · exact foldl_cover (L := L) h
/-- no later one has an earlier one within it -/
theorem foldl_pair : ∀ {L found : FM}, found.Pairwise (fun a b => ¬ ∀ x ∈ a, x ∈ b) → (L.foldl lsStep found).Pairwise (fun a b => ¬ ∀ x ∈ a, x ∈ b)
  | [], _, h => h
  | lot :: L, found, h => by
    refine foldl_pair (L := L) ?_
    unfold lsStep
    split
    · exact h
    · rename_i c
      refine List.pairwise_append.mpr ⟨h, List.pairwise_singleton _ _, fun a ha b hb => ?_⟩
      rw [List.mem_singleton.mp hb]
      intro z
      exact c (List.any_eq_true.mpr ⟨a, ha, subB_iff.2 z⟩)
theorem foldl_sub : ∀ {L found : FM}, ∃ M : FM, L.foldl lsStep found = found ++ M ∧ M.Sublist L
  | [], found => ⟨[], by simp, .refl _⟩
  | lot :: L, found => by
    obtain ⟨M, e, s⟩ := foldl_sub (L := L) (found := lsStep found lot)
    rw [List.foldl_cons, e]
    unfold lsStep
    split
    · exact ⟨M, rfl, s.cons _⟩
    · exact ⟨lot :: M, by rw [List.append_assoc]; rfl, s.cons₂ _⟩
theorem bsort_len {F : FM} : (bsort F).Pairwise (fun a b => a.length ≤ b.length) := by
  refine (isort_sorted bLe_total F).imp fun {a b} h => ?_
  unfold bLe at h
  split at h
  · omega
  · exact Nat.le_of_lt (of_decide_eq_true h)
theorem lsList_sub (F : FM) : (lsList F).Sublist F := by
  obtain ⟨M, e, s⟩ := foldl_sub (L := F) (found := [])
  unfold lsList
  rw [e]; exact s
theorem mem_lsList {F : FM} {a : KS} (h : a ∈ lsList (bsort (tset F))) : a ∈ F := tset_mem.1 (mem_isort.1 ((lsList_sub _).subset h))
theorem nodup_sub_len {α : Type} [DecidableEq α] : ∀ {a b : List α}, a.Nodup → (∀ x ∈ a, x ∈ b) → a.length ≤ b.length
  | [], _, _, _ => Nat.zero_le _
  | x :: a, b, ha, h => by
    obtain ⟨h1, h2⟩ := List.nodup_cons.mp ha
    have hx := h x List.mem_cons_self
    have ih := nodup_sub_len (b := b.erase x) h2 fun y hy => (List.mem_erase_of_ne (fun e : y = x => h1 (by rw [← e]; exact hy))).2 (h y (List.mem_cons_of_mem _ hy))
    have := List.length_erase_of_mem hx
    have := List.length_pos_of_mem hx
    rw [List.length_cons]
    omega
theorem nodup_sub_eq {α : Type} [DecidableEq α] {a b : List α} (ha : a.Nodup) (h : ∀ x ∈ a, x ∈ b) (hl : b.length ≤ a.length) : ∀ x ∈ b, x ∈ a := fun x hx => Classical.byContradiction fun z => by
  have := nodup_sub_len (a := x :: a) (b := b) (List.nodup_cons.mpr ⟨z, ha⟩) fun y hy => by
    rcases List.mem_cons.mp hy with e | hy
    · rw [e]; exact hx
    · exact h y hy
  rw [List.length_cons] at this
  omega
theorem least_leastP {F : FM} (h : CnF F) : Least (leastP F) := by
  have hm : ∀ a ∈ leastP F, a ∈ F := fun a ha => mem_lsList (mem_isort.1 ha)
  have nd : (bsort (tset F)).Nodup := (isort_perm _ _).nodup_iff.mpr (canon_nodup _ _)
  have ndl : (lsList (bsort (tset F))).Nodup := (lsList_sub _).nodup nd
  refine ⟨fun a ha => h a (hm a ha), fun a ha b hb s => ?_, (isort_perm _ _).nodup_iff.mpr ndl, isort_sorted tupLe_total _⟩
  have ha' := mem_isort.1 ha
  have hb' := mem_isort.1 hb
  refine Classical.byContradiction fun ne => ?_
  have pw : (lsList (bsort (tset F))).Pairwise (fun a b => ¬ ∀ x ∈ a, x ∈ b) := foldl_pair List.Pairwise.nil
  have pl : (lsList (bsort (tset F))).Pairwise (fun a b => a.length ≤ b.length) := bsort_len.sublist (lsList_sub _)
  have both := pw.and pl
  obtain ⟨i, hi, ei⟩ := List.getElem_of_mem ha'
  obtain ⟨j, hj, ej⟩ := List.getElem_of_mem hb'
  have hp := List.pairwise_iff_getElem.mp both
  rcases Nat.lt_trichotomy i j with c | c | c
  · have := (hp i j hi hj c).1
    rw [ei, ej] at this
    exact this s
  · subst c
    rw [ei] at ej
    exact ne ej
  · have q := (hp j i hj hi c)
    rw [ei, ej] at q
    have l1 := nodup_sub_len (h a (hm a ha)).1 s
    have el : a.length = b.length := Nat.le_antisymm l1 q.2
    exact ne (cn_ext (h a (hm a ha)) (h b (hm b hb)) fun x => ⟨s x, nodup_sub_eq (h a (hm a ha)).1 s (by omega) x⟩)
theorem opB_leastP (F : FM) (k : KS) : opB (leastP F) k = opB F k := by
  apply Bool.eq_iff_iff.mpr
  rw [opB_iff, opB_iff]
  refine ⟨fun ⟨o, ho, e⟩ => ⟨o, mem_lsList (mem_isort.1 ho), e⟩, fun ⟨o, ho, e⟩ => ?_⟩
  obtain ⟨b, hb, s⟩ := foldl_cover (L := bsort (tset F)) (found := []) (a := o) (mem_isort.2 (tset_mem.2 ho))
  exact ⟨b, mem_isort.2 hb, fun x hx => e x (s x hx)⟩
theorem leastP_mem {F : FM} {a : KS} (h : a ∈ leastP F) : a ∈ F := mem_lsList (mem_isort.1 h)
theorem leastP_self {F : FM} (h : Least F) : leastP F = F := least_ext (least_leastP h.cn) h (opB_leastP F)

/-! ### barriers -/
def barL (found : FM) (o : KS) : FM := (found.filter fun own => meetB own o) ++ (found.filter fun own => !meetB own o).flatMap fun own => o.map fun key => sset (own ++ [key])
def barStep (found : FM) (o : KS) : FM := leastP (barL found o)
def barP (F : FM) : FM := F.foldl barStep [[]]
theorem barL_cn {found : FM} {o : KS} (h : CnF found) : CnF (barL found o) := fun a ha => by
  rcases List.mem_append.mp ha with ha | ha
  · exact h a (List.mem_filter.mp ha).1
  · obtain ⟨own, _, ha⟩ := List.mem_flatMap.mp ha
    obtain ⟨key, _, rfl⟩ := List.mem_map.mp ha
    exact cn_sset _
theorem barL_op (found : FM) (o k : KS) : opB (barL found o) k = (opB found k && meetB k o) := by
  apply Bool.eq_iff_iff.mpr
  rw [Bool.and_eq_true, opB_iff, opB_iff, meetB_iff]
  constructor
  · rintro ⟨a, ha, e⟩
    rcases List.mem_append.mp ha with ha | ha
    · obtain ⟨h1, h2⟩ := List.mem_filter.mp ha
      obtain ⟨x, hx, hy⟩ := meetB_iff.1 h2
      exact ⟨⟨a, h1, e⟩, x, e x hx, hy⟩
    · obtain ⟨own, ho, ha⟩ := List.mem_flatMap.mp ha
      obtain ⟨key, hk, rfl⟩ := List.mem_map.mp ha
      exact ⟨⟨own, (List.mem_filter.mp ho).1, fun x hx => e x (sset_mem.2 (List.mem_append_left _ hx))⟩, key, e key (sset_mem.2 (List.mem_append_right _ List.mem_cons_self)), hk⟩
  · rintro ⟨⟨own, ho, e⟩, x, hx, hy⟩
    cases c : meetB own o with
    | true => exact ⟨own, List.mem_append_left _ (List.mem_filter.mpr ⟨ho, c⟩), e⟩
    | false =>
      refine ⟨sset (own ++ [x]), List.mem_append_right _ (List.mem_flatMap.mpr ⟨own, List.mem_filter.mpr ⟨ho, by rw [c]; rfl⟩, List.mem_map.mpr ⟨x, hy, rfl⟩⟩), fun y hy' => ?_⟩
      rcases List.mem_append.mp (sset_mem.1 hy') with q | q
      · exact e y q
      · rw [List.mem_singleton.mp q]; exact hx
theorem bar_fold : ∀ (F found : FM), Least found → Least (F.foldl barStep found) ∧ ∀ k, opB (F.foldl barStep found) k = (opB found k && F.all fun o => meetB k o)
  | [], found, h => ⟨h, fun k => by simp⟩
  | o :: F, found, h => by
    obtain ⟨h1, h2⟩ := bar_fold F (barStep found o) (least_leastP (barL_cn h.cn))
    refine ⟨h1, fun k => ?_⟩
    rw [List.foldl_cons, h2 k]
    unfold barStep
    rw [opB_leastP, barL_op, List.all_cons, Bool.and_assoc]
theorem least_unit : Least [[]] := ⟨fun a ha => by rw [List.mem_singleton.mp ha]; exact cn_nil, fun a ha b hb _ => by rw [List.mem_singleton.mp ha, List.mem_singleton.mp hb], List.nodup_cons.mpr ⟨by simp, List.nodup_nil⟩, List.pairwise_singleton _ _⟩
theorem least_barP (F : FM) : Least (barP F) := (bar_fold F [[]] least_unit).1
theorem opB_barP (F : FM) (k : KS) : opB (barP F) k = F.all fun o => meetB k o := by
  have := (bar_fold F [[]] least_unit).2 k
  unfold barP
  rw [this]
  have : opB [[]] k = true := opB_iff.2 ⟨[], List.mem_cons_self, fun x hx => by cases hx⟩
  rw [this, Bool.true_and]
theorem all_iff {F : FM} {p : KS → Bool} : F.all p = true ↔ ∀ o ∈ F, p o = true := List.all_eq_true
/-- a barrier meets every set -/
theorem bar_meets {F : FM} {b o : KS} (hb : b ∈ barP F) (ho : o ∈ F) : ∃ x ∈ b, x ∈ o := by
  have : opB (barP F) b = true := opB_iff.2 ⟨b, hb, fun x hx => hx⟩
  rw [opB_barP] at this
  exact meetB_iff.1 (all_iff.1 this o ho)
/-- twice: what F opens -/
theorem opB_bar2 (F : FM) (k : KS) : (barP F).all (fun b => meetB k b) = opB F k := by
  apply Bool.eq_iff_iff.mpr
  rw [all_iff, opB_iff]
  constructor
  · intro h
    refine Classical.byContradiction fun no => ?_
    have hc : opB (barP F) (F.flatten.filter fun x => !decide (x ∈ k)) = true := by
      rw [opB_barP, all_iff]
      intro o ho
      have : ∃ x ∈ o, x ∉ k := Classical.byContradiction fun z => no ⟨o, ho, fun x hx => Classical.byContradiction fun q => z ⟨x, hx, q⟩⟩
      obtain ⟨x, hx, hk⟩ := this
      exact meetB_iff.2 ⟨x, List.mem_filter.mpr ⟨List.mem_flatten.mpr ⟨o, ho, hx⟩, by simp [hk]⟩, hx⟩
    obtain ⟨b, hb, s⟩ := opB_iff.1 hc
    obtain ⟨x, hx, hy⟩ := meetB_iff.1 (h b hb)
    have := (List.mem_filter.mp (s x hy)).2
    simp [hx] at this
  · rintro ⟨o, ho, s⟩ b hb
    obtain ⟨x, hx, hy⟩ := bar_meets hb ho
    exact meetB_iff.2 ⟨x, s x hy, hx⟩
theorem bar_bar {F : FM} (h : CnF F) : barP (barP F) = leastP F := least_ext (least_barP _) (least_leastP h) fun k => by rw [opB_barP, opB_bar2, opB_leastP]
theorem bar_bar_least {F : FM} (h : Least F) : barP (barP F) = F := (bar_bar h.cn).trans (leastP_self h)
/-- each barrier needs each of its keys -/
theorem bar_needs {F : FM} {b : KS} {k : Str} (hb : b ∈ barP F) (hk : k ∈ b) : ∃ o ∈ F, k ∈ o ∧ ∀ x ∈ b, x ∈ o → x = k := by
  refine Classical.byContradiction fun no => ?_
  have hc : opB (barP F) (b.filter fun x => !decide (x = k)) = true := by
    rw [opB_barP, all_iff]
    intro o ho
    obtain ⟨x, hx, hy⟩ := bar_meets hb ho
    by_cases e : x = k
    · subst e
      refine Classical.byContradiction fun z => no ⟨o, ho, hy, fun y hy1 hy2 => Classical.byContradiction fun q => z ?_⟩
      exact meetB_iff.2 ⟨y, List.mem_filter.mpr ⟨hy1, by simp [q]⟩, hy2⟩
    · exact meetB_iff.2 ⟨x, List.mem_filter.mpr ⟨hx, by simp [e]⟩, hy⟩
  obtain ⟨c, hc, s⟩ := opB_iff.1 hc
  have e := (least_barP F).anti c hc b hb fun x hx => (List.mem_filter.mp (s x hx)).1
  subst e
  have := (List.mem_filter.mp (s k hk)).2
  simp at this
/-- the keys of barriers are keys of the sets -/
theorem bar_within {F : FM} {b : KS} {k : Str} (hb : b ∈ barP F) (hk : k ∈ b) : ∃ o ∈ F, k ∈ o := by
  obtain ⟨o, ho, h, _⟩ := bar_needs hb hk
  exact ⟨o, ho, h⟩
end Vk

/-! ## VkLaw2 -/
set_option Elab.async false
set_option linter.all false
set_option maxRecDepth 100000
set_option maxHeartbeats 1000000
/-! The plain law: losses, houses, peoples, committees; hanging trimmed. -/
namespace Vk
open PySem PySem.Spec PyProof.Rows PySem.W
def cut (a s : KS) : KS := a.filter fun x => !decide (x ∈ s)
def inter (a s : KS) : KS := a.filter fun x => decide (x ∈ s)
theorem mem_cut {a s : KS} {x : Str} : x ∈ cut a s ↔ x ∈ a ∧ x ∉ s := by unfold cut; rw [List.mem_filter]; simp
theorem mem_inter {a s : KS} {x : Str} : x ∈ inter a s ↔ x ∈ a ∧ x ∈ s := by unfold inter; rw [List.mem_filter]; simp
theorem cn_filter {a : KS} (h : Cn a) (p : Str → Bool) : Cn (a.filter p) := ⟨h.1.filter p, h.2.filter p⟩
theorem opB_sset (F : FM) (k : KS) : opB (F.map sset) k = opB F k := by
  apply Bool.eq_iff_iff.mpr
  rw [opB_iff, opB_iff]
  constructor
  · rintro ⟨o, ho, e⟩
    obtain ⟨a, ha, rfl⟩ := List.mem_map.mp ho
    exact ⟨a, ha, fun x hx => e x (sset_mem.2 hx)⟩
  · rintro ⟨o, ho, e⟩
    exact ⟨sset o, List.mem_map.mpr ⟨o, ho, rfl⟩, fun x hx => e x (sset_mem.1 hx)⟩
theorem cn_map_sset (F : FM) : CnF (F.map sset) := fun a ha => by
  obtain ⟨b, _, rfl⟩ := List.mem_map.mp ha
  exact cn_sset b
/-- least_sets of the sets as laid -/
def lsF (F : FM) : FM := leastP (F.map sset)
theorem least_lsF (F : FM) : Least (lsF F) := least_leastP (cn_map_sset F)
theorem opB_lsF (F : FM) (k : KS) : opB (lsF F) k = opB F k := by unfold lsF; rw [opB_leastP, opB_sset]
theorem lsF_mem {F : FM} {a : KS} (h : a ∈ lsF F) : ∃ o ∈ F, ∀ x, x ∈ a ↔ x ∈ o := by
  obtain ⟨o, ho, rfl⟩ := List.mem_map.mp (leastP_mem h)
  exact ⟨o, ho, fun x => sset_mem⟩
/-! ### losses -/
def lostF (F : FM) (gone : KS) : FM := lsF (F.filter fun own => !meetB gone own)
def leftF (F : FM) (stays : KS) : FM := lsF (F.map fun own => cut own stays)
theorem opB_lost (F : FM) (gone k : KS) : opB (lostF F gone) k = opB F (cut k gone) := by
  unfold lostF
  rw [opB_lsF]
  apply Bool.eq_iff_iff.mpr
  rw [opB_iff, opB_iff]
  constructor
  · rintro ⟨o, ho, e⟩
    obtain ⟨h1, h2⟩ := List.mem_filter.mp ho
    refine ⟨o, h1, fun x hx => mem_cut.2 ⟨e x hx, fun z => ?_⟩⟩
    have : meetB gone o = true := meetB_iff.2 ⟨x, z, hx⟩
    rw [this] at h2
    cases h2
  · rintro ⟨o, ho, e⟩
    refine ⟨o, List.mem_filter.mpr ⟨ho, ?_⟩, fun x hx => (mem_cut.1 (e x hx)).1⟩
    cases c : meetB gone o with
    | false => rfl
    | true =>
      obtain ⟨x, h1, h2⟩ := meetB_iff.1 c
      exact absurd h1 (mem_cut.1 (e x h2)).2
theorem opB_left (F : FM) (stays k : KS) : opB (leftF F stays) k = opB F (k ++ stays) := by
  unfold leftF
  rw [opB_lsF]
  apply Bool.eq_iff_iff.mpr
  rw [opB_iff, opB_iff]
  constructor
  · rintro ⟨o, ho, e⟩
    obtain ⟨a, ha, rfl⟩ := List.mem_map.mp ho
    refine ⟨a, ha, fun x hx => ?_⟩
    by_cases c : x ∈ stays
    · exact List.mem_append_right _ c
    · exact List.mem_append_left _ (e x (mem_cut.2 ⟨hx, c⟩))
  · rintro ⟨o, ho, e⟩
    refine ⟨cut o stays, List.mem_map.mpr ⟨o, ho, rfl⟩, fun x hx => ?_⟩
    obtain ⟨h1, h2⟩ := mem_cut.1 hx
    exact (List.mem_append.mp (e x h1)).resolve_right h2
abbrev Hang : Type := List (Str × KS)
def undB (hang : Hang) (h : KS) : Bool := hang.all fun p => meetB p.2 h
def keptP (hang : Hang) (gone stays : KS) : Hang := (hang.filter fun p => (inter p.2 stays).isEmpty).map fun p => (p.1, cut p.2 gone)
theorem undB_snd (hang : Hang) (h : KS) : undB hang h = (hang.map (·.2)).all fun b => meetB h b := by
  unfold undB
  rw [List.all_map]
  congr 1
  funext p
  exact meetB_comm _ _
theorem undB_kept {F : FM} {hang : Hang} {gone stays : KS} (hb : hang.map (·.2) = barP F) (h : KS) : undB (keptP hang gone stays) h = opB F (cut h gone ++ stays) := by
  rw [← opB_bar2, ← hb]
  apply Bool.eq_iff_iff.mpr
  unfold undB keptP
  rw [List.all_map, List.all_filter, List.all_map, List.all_eq_true, List.all_eq_true]
  refine forall_congr' fun p => imp_congr_right fun hp => ?_
  show (!(inter p.2 stays).isEmpty || meetB (cut p.2 gone) h) = true ↔ meetB (cut h gone ++ stays) p.2 = true
  rw [Bool.or_eq_true, meetB_iff, meetB_iff]
  constructor
  · rintro (h1 | ⟨x, h1, h2⟩)
    · cases e : inter p.2 stays with
      | nil => rw [e] at h1; cases h1
      | cons x l =>
        have hx : x ∈ inter p.2 stays := by rw [e]; exact List.mem_cons_self
        obtain ⟨h3, h4⟩ := mem_inter.1 hx
        exact ⟨x, List.mem_append_right _ h4, h3⟩
    · obtain ⟨h3, h4⟩ := mem_cut.1 h1
      exact ⟨x, List.mem_append_left _ (mem_cut.2 ⟨h2, h4⟩), h3⟩
  · rintro ⟨x, h1, h2⟩
    rcases List.mem_append.mp h1 with h1 | h1
    · obtain ⟨h3, h4⟩ := mem_cut.1 h1
      exact .inr ⟨x, mem_cut.2 ⟨h2, h4⟩, h3⟩
    · left
      have hx : x ∈ inter p.2 stays := mem_inter.2 ⟨h2, h1⟩
      cases e : inter p.2 stays with
      | nil => rw [e] at hx; cases hx
      | cons y l => rfl
theorem cut_append {h s g : KS} (d : ∀ x ∈ s, x ∉ g) : cut (h ++ s) g = cut h g ++ s := by
  unfold cut
  rw [List.filter_append]
  congr 1
  exact List.filter_eq_self.mpr fun x hx => by simp [d x hx]
theorem opB_und {G : FM} {hang : Hang} (h : ∀ k, opB G k = undB hang k) (hG : Least G) : barP (hang.map (·.2)) = G := least_ext (least_barP _) hG fun k => by rw [opB_barP, h, undB_snd]
/-- the whole: behind the loss -/
theorem loss_op {F : FM} {hang : Hang} {gone stays : KS} (hb : hang.map (·.2) = barP F) (d : ∀ x ∈ stays, x ∉ gone) (k : KS) : opB (leftF (lostF F gone) stays) k = undB (keptP hang gone stays) k := by
  rw [opB_left, opB_lost, undB_kept hb, cut_append d]
theorem lost_op {F : FM} {hang : Hang} {gone : KS} (hb : hang.map (·.2) = barP F) (k : KS) : opB (lostF F gone) k = undB (keptP hang gone []) k := by
  rw [opB_lost, undB_kept hb, List.append_nil]
theorem cut_nil (k : KS) : cut k [] = k := by
  unfold cut
  exact List.filter_eq_self.mpr fun x hx => by simp
theorem left_op {F : FM} {hang : Hang} {stays : KS} (hb : hang.map (·.2) = barP F) (k : KS) : opB (leftF F stays) k = undB (keptP hang [] stays) k := by
  rw [opB_left, undB_kept hb, cut_nil]
theorem kept_cn {hang : Hang} {gone stays : KS} (h : CnF (hang.map (·.2))) : CnF ((keptP hang gone stays).map (·.2)) := fun a ha => by
  obtain ⟨p, hp, rfl⟩ := List.mem_map.mp ha
  obtain ⟨q, hq, rfl⟩ := List.mem_map.mp hp
  exact cn_filter (h _ (List.mem_map.mpr ⟨q, (List.mem_filter.mp hq).1, rfl⟩)) _
/-! ### trimmed -/
def trimGo (needed : FM) : FM → Hang → Hang
  | _, [] => []
  | seen, p :: l => if p.2 ∈ needed ∧ p.2 ∉ seen then p :: trimGo needed (seen ++ [p.2]) l else trimGo needed seen l
def trimP (hang : Hang) : Hang := trimGo (leastP (hang.map (·.2))) [] hang
theorem trimGo_mem {needed : FM} : ∀ {l : Hang} {seen : FM} {a : KS}, a ∈ (trimGo needed seen l).map (·.2) ↔ a ∈ l.map (·.2) ∧ a ∈ needed ∧ a ∉ seen
  | [], seen, a => by simp [trimGo]
  | p :: l, seen, a => by
    unfold trimGo
    by_cases c : p.2 ∈ needed ∧ p.2 ∉ seen
    · rw [if_pos c, List.map_cons, List.map_cons, List.mem_cons, List.mem_cons, trimGo_mem, List.mem_append]
      constructor
      · rintro (rfl | ⟨h1, h2, h3⟩)
        · exact ⟨.inl rfl, c⟩
        · exact ⟨.inr h1, h2, fun z => h3 (.inl z)⟩
      · rintro ⟨h1, h2, h3⟩
        by_cases e : a = p.2
        · exact .inl e
        · exact .inr ⟨h1.resolve_left e, h2, fun z => z.elim h3 fun z => e (List.mem_singleton.mp z)⟩
    · rw [if_neg c, List.map_cons, List.mem_cons, trimGo_mem]
      constructor
      · rintro ⟨h1, h2, h3⟩; exact ⟨.inr h1, h2, h3⟩
      · rintro ⟨h1 | h1, h2, h3⟩
        · subst h1; exact absurd ⟨h2, h3⟩ c
        · exact ⟨h1, h2, h3⟩
theorem trimGo_nodup {needed : FM} : ∀ {l : Hang} {seen : FM}, ((trimGo needed seen l).map (·.2)).Nodup
  | [], seen => List.nodup_nil
  | p :: l, seen => by
    unfold trimGo
    by_cases c : p.2 ∈ needed ∧ p.2 ∉ seen
    · rw [if_pos c, List.map_cons]
      exact List.nodup_cons.mpr ⟨fun z => (trimGo_mem.1 z).2.2 (List.mem_append_right _ List.mem_cons_self), trimGo_nodup⟩
    · rw [if_neg c]; exact trimGo_nodup
theorem trimGo_self {needed : FM} : ∀ {l : Hang} {seen : FM}, (∀ p ∈ l, p.2 ∈ needed ∧ p.2 ∉ seen) → (l.map (·.2)).Nodup → trimGo needed seen l = l
  | [], _, _, _ => rfl
  | p :: l, seen, h, nd => by
    rw [List.map_cons] at nd
    obtain ⟨n1, n2⟩ := List.nodup_cons.mp nd
    unfold trimGo
    rw [if_pos (h p List.mem_cons_self), trimGo_self (fun q hq => ⟨(h q (List.mem_cons_of_mem _ hq)).1, fun z => ?_⟩) n2]
    rcases List.mem_append.mp z with z | z
    · exact (h q (List.mem_cons_of_mem _ hq)).2 z
    · exact n1 (List.mem_singleton.mp z ▸ List.mem_map.mpr ⟨q, hq, rfl⟩)
theorem trimP_mem {hang : Hang} {a : KS} : a ∈ (trimP hang).map (·.2) ↔ a ∈ leastP (hang.map (·.2)) := by
  unfold trimP
  rw [trimGo_mem]
  exact ⟨fun h => h.2.1, fun h => ⟨leastP_mem h, h, by simp⟩⟩
theorem trimP_sorted {hang : Hang} (h : CnF (hang.map (·.2))) : isort tupLe ((trimP hang).map (·.2)) = leastP (hang.map (·.2)) :=
  sd_ext tupLe_anti ⟨(isort_perm _ _).nodup_iff.mpr trimGo_nodup, isort_sorted tupLe_total _⟩ (least_leastP h).sd fun x => mem_isort.trans trimP_mem
theorem trimP_len {hang : Hang} (h : CnF (hang.map (·.2))) : (trimP hang).length = (leastP (hang.map (·.2))).length := by
  rw [← trimP_sorted h, (isort_perm _ _).length_eq, List.length_map]
theorem trimP_sub {needed : FM} : ∀ {l : Hang} {seen : FM}, ∀ p ∈ trimGo needed seen l, p ∈ l
  | [], _, p, h => by cases h
  | q :: l, seen, p, h => by
    unfold trimGo at h
    split at h
    · rcases List.mem_cons.mp h with e | h
      · rw [e]; exact List.mem_cons_self
      · exact List.mem_cons_of_mem _ (trimP_sub p h)
    · exact List.mem_cons_of_mem _ (trimP_sub p h)
theorem trimP_twice {hang : Hang} (h : CnF (hang.map (·.2))) : trimP (trimP hang) = trimP hang := by
  have hc : CnF ((trimP hang).map (·.2)) := fun a ha => (least_leastP h).cn a (trimP_mem.1 ha)
  have e : leastP ((trimP hang).map (·.2)) = leastP (hang.map (·.2)) := least_ext (least_leastP hc) (least_leastP h) fun k => by
    rw [opB_leastP]
    apply Bool.eq_iff_iff.mpr
    rw [opB_iff, opB_iff]
    exact ⟨fun ⟨o, ho, s⟩ => ⟨o, trimP_mem.1 ho, s⟩, fun ⟨o, ho, s⟩ => ⟨o, trimP_mem.2 ho, s⟩⟩
  show trimGo (leastP ((trimP hang).map (·.2))) [] (trimP hang) = trimP hang
  rw [e]
  exact trimGo_self (fun p hp => ⟨trimP_mem.1 (List.mem_map.mpr ⟨p, hp, rfl⟩), by simp⟩) trimGo_nodup
/-! ### houses -/
def waysP (lots : List FM) : FM := lots.foldl (fun found lot => found.flatMap fun own => lot.map fun more => own ++ more) [[]]
def houseF (F F2 : FM) (tag : Str) : FM := F.flatMap fun o => waysP (o.map fun name => if name = tag then F2 else [[name]])
theorem ways_fold (h : KS) : ∀ (lots : List FM) (found : FM), opB (lots.foldl (fun found lot => found.flatMap fun own => lot.map fun more => own ++ more) found) h = (opB found h && lots.all fun lot => opB lot h)
  | [], found => by simp
  | lot :: lots, found => by
    rw [List.foldl_cons, ways_fold h lots, List.all_cons, ← Bool.and_assoc]
    congr 1
    apply Bool.eq_iff_iff.mpr
    rw [Bool.and_eq_true, opB_iff, opB_iff, opB_iff]
    constructor
    · rintro ⟨o, ho, e⟩
      obtain ⟨own, h1, h2⟩ := List.mem_flatMap.mp ho
      obtain ⟨more, h3, rfl⟩ := List.mem_map.mp h2
      exact ⟨⟨own, h1, fun x hx => e x (List.mem_append_left _ hx)⟩, more, h3, fun x hx => e x (List.mem_append_right _ hx)⟩
    · rintro ⟨⟨own, h1, e1⟩, more, h3, e3⟩
      exact ⟨own ++ more, List.mem_flatMap.mpr ⟨own, h1, List.mem_map.mpr ⟨more, h3, rfl⟩⟩, fun x hx => (List.mem_append.mp hx).elim (e1 x) (e3 x)⟩
theorem opB_ways (lots : List FM) (h : KS) : opB (waysP lots) h = lots.all fun lot => opB lot h := by
  unfold waysP
  rw [ways_fold]
  have : opB [[]] h = true := opB_iff.2 ⟨[], List.mem_cons_self, fun x hx => by cases hx⟩
  rw [this, Bool.true_and]
/-- what is held, told of the outer vault -/
def hImg (F2 : FM) (tag : Str) (h : KS) : KS := cut h [tag] ++ (if opB F2 h then [tag] else [])
theorem mem_hImg {F2 : FM} {tag x : Str} {h : KS} : x ∈ hImg F2 tag h ↔ (x ≠ tag ∧ x ∈ h) ∨ (x = tag ∧ opB F2 h = true) := by
  unfold hImg
  rw [List.mem_append, mem_cut]
  by_cases c : opB F2 h = true
  · rw [if_pos c]; simp [c, and_comm]
  · rw [if_neg c]; simp [c, and_comm]
theorem opB_house (F F2 : FM) (tag : Str) (h : KS) : opB (houseF F F2 tag) h = opB F (hImg F2 tag h) := by
  apply Bool.eq_iff_iff.mpr
  have e1 : opB (houseF F F2 tag) h = true ↔ ∃ o ∈ F, opB (waysP (o.map fun name => if name = tag then F2 else [[name]])) h = true := by
    rw [opB_iff]
    constructor
    · rintro ⟨w, hw, e⟩
      obtain ⟨o, h1, h2⟩ := List.mem_flatMap.mp hw
      exact ⟨o, h1, opB_iff.2 ⟨w, h2, e⟩⟩
    · rintro ⟨o, h1, h2⟩
      obtain ⟨w, h3, e⟩ := opB_iff.1 h2
      exact ⟨w, List.mem_flatMap.mpr ⟨o, h1, h3⟩, e⟩
  rw [e1, opB_iff]
  refine exists_congr fun o => and_congr_right fun ho => ?_
  rw [opB_ways, List.all_map, List.all_eq_true]
  refine forall_congr' fun x => imp_congr_right fun hx => ?_
  show opB (if x = tag then F2 else [[x]]) h = true ↔ _
  rw [mem_hImg]
  by_cases c : x = tag
  · rw [if_pos c]
    exact ⟨fun z => .inr ⟨c, z⟩, fun z => z.elim (fun z => absurd c z.1) (·.2)⟩
  · rw [if_neg c, opB_iff]
    constructor
    · rintro ⟨o', ho', e⟩
      rw [List.mem_singleton.mp ho'] at e
      exact .inl ⟨c, e x List.mem_cons_self⟩
    · rintro (z | z)
      · exact ⟨[x], List.mem_cons_self, fun y hy => by rw [List.mem_singleton.mp hy]; exact z.2⟩
      · exact absurd z.1 c
def hFound (B B2 : FM) (tag : Str) : FM := B.flatMap fun own => if tag ∈ own then B2.map fun far => isort strLe (cut own [tag] ++ far) else [own]
theorem hFound_all {F F2 : FM} {tag : Str} (h : KS) : ((hFound (barP F) (barP F2) tag).all fun b => meetB h b) = opB F (hImg F2 tag h) := by
  rw [← opB_bar2 F]
  apply Bool.eq_iff_iff.mpr
  rw [all_iff, all_iff]
  have key : ∀ own ∈ barP F, (∀ b ∈ (if tag ∈ own then (barP F2).map fun far => isort strLe (cut own [tag] ++ far) else [own]), meetB h b = true) ↔ meetB (hImg F2 tag h) own = true := by
    intro own _
    by_cases c : tag ∈ own
    · rw [if_pos c]
      constructor
      · intro q
        by_cases m : ∃ x ∈ h, x ∈ cut own [tag]
        · obtain ⟨x, h1, h2⟩ := m
          obtain ⟨h3, h4⟩ := mem_cut.1 h2
          exact meetB_iff.2 ⟨x, mem_hImg.2 (.inl ⟨fun e => h4 (by rw [e]; exact List.mem_cons_self), h1⟩), h3⟩
        · refine meetB_iff.2 ⟨tag, mem_hImg.2 (.inr ⟨rfl, ?_⟩), c⟩
          rw [← opB_bar2, all_iff]
          intro far hf
          obtain ⟨x, h1, h2⟩ := meetB_iff.1 (q _ (List.mem_map.mpr ⟨far, hf, rfl⟩))
          rcases List.mem_append.mp (mem_isort.1 h2) with h2 | h2
          · exact absurd ⟨x, h1, h2⟩ m
          · exact meetB_iff.2 ⟨x, h1, h2⟩
      · intro q b hb
        obtain ⟨far, hf, rfl⟩ := List.mem_map.mp hb
        obtain ⟨x, h1, h2⟩ := meetB_iff.1 q
        rcases mem_hImg.1 h1 with ⟨h3, h4⟩ | ⟨h3, h4⟩
        · exact meetB_iff.2 ⟨x, h4, mem_isort.2 (List.mem_append_left _ (mem_cut.2 ⟨h2, fun z => h3 (List.mem_singleton.mp z)⟩))⟩
        · rw [← opB_bar2, all_iff] at h4
          obtain ⟨y, h5, h6⟩ := meetB_iff.1 (h4 far hf)
          exact meetB_iff.2 ⟨y, h5, mem_isort.2 (List.mem_append_right _ h6)⟩
    · rw [if_neg c]
      constructor
      · intro q
        obtain ⟨x, h1, h2⟩ := meetB_iff.1 (q own List.mem_cons_self)
        exact meetB_iff.2 ⟨x, mem_hImg.2 (.inl ⟨fun e => c (e ▸ h2), h1⟩), h2⟩
      · intro q b hb
        rw [List.mem_singleton.mp hb]
        obtain ⟨x, h1, h2⟩ := meetB_iff.1 q
        rcases mem_hImg.1 h1 with ⟨h3, h4⟩ | ⟨h3, h4⟩
        · exact meetB_iff.2 ⟨x, h4, h2⟩
        · exact absurd (h3 ▸ h2) c
  constructor
  · intro q own ho
    exact (key own ho).1 fun b hb => q b (List.mem_flatMap.mpr ⟨own, ho, hb⟩)
  · intro q b hb
    obtain ⟨own, ho, hb⟩ := List.mem_flatMap.mp hb
    exact (key own ho).2 (q own ho) b hb
theorem hFound_cn {F F2 : FM} {tag : Str} (d : ∀ o ∈ F, ∀ x ∈ o, x ≠ tag → ∀ o2 ∈ F2, x ∉ o2) : CnF (hFound (barP F) (barP F2) tag) := fun a ha => by
  obtain ⟨own, ho, ha⟩ := List.mem_flatMap.mp ha
  by_cases c : tag ∈ own
  · rw [if_pos c] at ha
    obtain ⟨far, hf, rfl⟩ := List.mem_map.mp ha
    refine ⟨(isort_perm _ _).nodup_iff.mpr ?_, isort_sorted strLe_total _⟩
    refine List.nodup_append.mpr ⟨(cn_filter ((least_barP F).cn own ho) _).1, ((least_barP F2).cn far hf).1, fun x hx y hy e => ?_⟩
    subst e
    obtain ⟨h1, h2⟩ := mem_cut.1 hx
    obtain ⟨o, q1, q2⟩ := bar_within ho h1
    obtain ⟨o2, q3, q4⟩ := bar_within hf hy
    exact d o q1 x q2 (fun e => h2 (by rw [e]; exact List.mem_cons_self)) o2 q3 q4
  · rw [if_neg c] at ha
    rw [List.mem_singleton.mp ha]
    exact (least_barP F).cn own ho
/-- the put-in vault, by its barriers -/
theorem house_bar (F F2 : FM) (tag : Str) : barP (hFound (barP F) (barP F2) tag) = lsF (houseF F F2 tag) := least_ext (least_barP _) (least_lsF _) fun k => by
  rw [opB_barP, hFound_all, opB_lsF, opB_house]
theorem house_bar2 {F F2 : FM} {tag : Str} (d : ∀ o ∈ F, ∀ x ∈ o, x ≠ tag → ∀ o2 ∈ F2, x ∉ o2) : barP (lsF (houseF F F2 tag)) = leastP (hFound (barP F) (barP F2) tag) := by
  rw [← house_bar, bar_bar (hFound_cn d)]
/-! ### peoples -/
theorem people_bar (F : FM) (t : Str → Str) : barP ((barP F).map fun b => sset (b.map t)) = lsF (F.map fun o => o.map t) := least_ext (least_barP _) (least_lsF _) fun k => by
  rw [opB_barP, opB_lsF]
  have e1 : opB (F.map fun o => o.map t) k = opB F (F.flatten.filter fun x => decide (t x ∈ k)) := by
    apply Bool.eq_iff_iff.mpr
    rw [opB_iff, opB_iff]
    constructor
    · rintro ⟨o', ho, e⟩
      obtain ⟨o, hq, rfl⟩ := List.mem_map.mp ho
      exact ⟨o, hq, fun x hx => List.mem_filter.mpr ⟨List.mem_flatten.mpr ⟨o, hq, hx⟩, decide_eq_true (e _ (List.mem_map.mpr ⟨x, hx, rfl⟩))⟩⟩
    · rintro ⟨o, ho, e⟩
      refine ⟨o.map t, List.mem_map.mpr ⟨o, ho, rfl⟩, fun y hy => ?_⟩
      obtain ⟨x, hx, rfl⟩ := List.mem_map.mp hy
      exact of_decide_eq_true (List.mem_filter.mp (e x hx)).2
  rw [e1, ← opB_bar2, List.all_map]
  apply Bool.eq_iff_iff.mpr
  rw [List.all_eq_true, List.all_eq_true]
  refine forall_congr' fun b => imp_congr_right fun hb => ?_
  show meetB k (sset (b.map t)) = true ↔ _
  rw [meetB_iff, meetB_iff]
  constructor
  · rintro ⟨y, h1, h2⟩
    obtain ⟨x, hx, rfl⟩ := List.mem_map.mp (sset_mem.1 h2)
    obtain ⟨o, q1, q2⟩ := bar_within hb hx
    exact ⟨x, List.mem_filter.mpr ⟨List.mem_flatten.mpr ⟨o, q1, q2⟩, decide_eq_true h1⟩, hx⟩
  · rintro ⟨x, h1, h2⟩
    exact ⟨t x, of_decide_eq_true (List.mem_filter.mp h1).2, sset_mem.2 (List.mem_map.mpr ⟨x, h2, rfl⟩)⟩
/-! ### committees -/
def comB (F : FM) (S : KS) : Bool := F.all fun A => !meetB A S || F.all fun B => !meetB B S || opB F (cut A S ++ inter B S)
theorem comB_iff {F : FM} {S : KS} : comB F S = true ↔ ∀ A ∈ F, meetB A S = true → ∀ B ∈ F, meetB B S = true → opB F (cut A S ++ inter B S) = true := by
  unfold comB
  rw [List.all_eq_true]
  refine forall_congr' fun A => imp_congr_right fun _ => ?_
  cases meetB A S with
  | false => simp
  | true =>
    simp only [Bool.not_true, Bool.false_or, List.all_eq_true, true_implies]
    refine forall_congr' fun B => imp_congr_right fun _ => ?_
    cases meetB B S <;> simp
theorem com_dual {F : FM} {S : KS} (h : comB F S = true) : comB (barP F) S = true := by
  rw [comB_iff] at h ⊢
  intro C hC hCS D hD hDS
  rw [opB_barP, all_iff]
  intro A hA
  refine Classical.byContradiction fun no => ?_
  have no' : ∀ x, x ∈ cut C S ++ inter D S → x ∉ A := fun x hx z => no (meetB_iff.2 ⟨x, hx, z⟩)
  cases c : meetB A S with
  | false =>
    obtain ⟨x, h1, h2⟩ := bar_meets hC hA
    refine no' x (List.mem_append_left _ (mem_cut.2 ⟨h1, fun z => ?_⟩)) h2
    have : meetB A S = true := meetB_iff.2 ⟨x, h2, z⟩
    rw [this] at c; cases c
  | true =>
    obtain ⟨k, hk1, hk2⟩ := meetB_iff.1 hDS
    obtain ⟨B, hB, hkB, only⟩ := bar_needs hD hk1
    have := h B hB (meetB_iff.2 ⟨k, hkB, hk2⟩) A hA c
    obtain ⟨E, hE, s⟩ := opB_iff.1 this
    obtain ⟨x, h1, h2⟩ := bar_meets hD hE
    rcases List.mem_append.mp (s x h2) with q | q
    · obtain ⟨q1, q2⟩ := mem_cut.1 q
      exact q2 (only x h1 q1 ▸ hk2)
    · obtain ⟨q1, q2⟩ := mem_inter.1 q
      exact no' x (List.mem_append_right _ (mem_inter.2 ⟨h1, q2⟩)) q1
theorem com_self {F : FM} (h : Least F) (S : KS) : comB (barP F) S = comB F S := by
  apply Bool.eq_iff_iff.mpr
  refine ⟨fun q => ?_, com_dual⟩
  have := com_dual q
  rwa [bar_bar_least h] at this
end Vk

/-! ## VkBodies -/
set_option Elab.async false
set_option linter.all false
set_option maxRecDepth 100000
set_option maxHeartbeats 1000000
/-! Printed by gen_bodies.py: each def's reading and that its body has it. -/
namespace Vk
open PySem PySem.Spec PyProof.Rows L2 LamX StX
section
variable {P : Program} {w : World} {K : PySem.W.Frag} {mg : Str → Option Value} {base : Heap} {T : TabL}

/-! ### set_of (rank 1); slots 0:some -/
theorem sc_set_of : FnScope ["some"] ["some"] (defScope s_set_of) := ⟨rfl, rfl, rfl, by decide +kernel, rfl, by decide +kernel, by decide +kernel⟩
theorem bd_set_of : BindsSt s_set_of "set_of" ["some"] := fun _ _ _ _ _ _ us hl => match us, hl with | [_], _ => rfl
def w_set_of : W2 := (wRet (rCall phTuple (rCons (rSset (rVar 0)) rNil)))
theorem body_set_of (B : Bl mg) : Body P w K mg base T ["some"] "set_of" s_set_of 0 (w_set_of) := by
  intro f cdv A outer s H E hr
  exact (dss_one (ds_ret (de_callTy cd_tuple (by rfl) B.tuple_ rfl (da_cons (de_sset rfl (hu64 hr) (by rfl) B.sorted_ (by rfl) B.set_ (de_var (pv 0))) da_nil))))
/-! ### tupled (rank 12); slots 0:value 1:part -/
theorem sc_tupled : FnScope ["value", "part"] ["value"] (defScope s_tupled) := ⟨rfl, rfl, rfl, by decide +kernel, rfl, by decide +kernel, by decide +kernel⟩
theorem bd_tupled : BindsSt s_tupled "tupled" ["value"] := fun _ _ _ _ _ _ us hl => match us, hl with | [_], _ => rfl
def w_tupled (f_tupled : Phi) : W2 := (wRet (rIf (rOf (rIsi2 (rVar 0) "list" "tuple")) (rCall phTuple (rCons (rLst' (rLc [1] (rSeq (rVar 0)) (.nm 1) rYes (rCallN 1 f_tupled (rCons (rVar 1) rNil)))) rNil)) (rVar 0)))
theorem body_tupled {f_tupled : Phi} {k : Nat} (hk : k ≤ 100) (B : Bl mg) (d_tupled : PDef P w K mg base T "tupled" k 1 f_tupled) : Body P w K mg base T ["value", "part"] "tupled" s_tupled k (w_tupled f_tupled) := by
  intro f cdv A outer s H E hr
  exact (dss_one (ds_ret (de_if (dt_val (de_isi2 (C := "list") (C' := "tuple") (by decide) (by decide) (by rfl) B.isinstance_ (de_var (pv 0)) (pe_bltn (by rfl) B.list_ rfl rfl) (pe_bltn (by rfl) B.tuple_ rfl rfl))) (de_callTy cd_tuple (by rfl) B.tuple_ rfl (da_cons (de_lc rfl sc_tupled.nd (di_seq (de_var (pv 0))) (own := [("part", 1)]) (blkOk_by (by kernel_rfl)) (b := (.nm 1)) (by decide) (fun _ _ _ _ _ => (pg_name (i := 1) sc_tupled.nd rfl (by first | exact .inl rfl | exact .inr rfl))) (fun _ _ _ _ _ => dts_nil) (fun _ _ _ _ _ => (de_callD d_tupled hr (Nat.le_refl _) (by rfl) (da_cons (de_var (pv 1)) da_nil)))) da_nil)) (de_var (pv 0)))))
/-! ### is_within (rank 1); slots 0:some 1:others 2:own -/
theorem sc_is_within : FnScope ["some", "others", "own"] ["some", "others"] (defScope s_is_within) := ⟨rfl, rfl, rfl, by decide +kernel, rfl, by decide +kernel, by decide +kernel⟩
theorem bd_is_within : BindsSt s_is_within "is_within" ["some", "others"] := fun _ _ _ _ _ _ us hl => match us, hl with | [_, _], _ => rfl
def w_is_within : W2 := (wRet (rCall phAll (rCons (rLst' (rLc [2] (rSeq (rVar 0)) (.nm 2) rYes (rBin (phIn false) (rVar 2) (rVar 1)))) rNil)))
theorem body_is_within (B : Bl mg) : Body P w K mg base T ["some", "others", "own"] "is_within" s_is_within 0 (w_is_within) := by
  intro f cdv A outer s H E hr
  exact (dss_one (ds_ret (de_callB (cd_all rfl) (by rfl) B.all_ rfl (da_cons (de_lc rfl sc_is_within.nd (di_seq (de_var (pv 0))) (own := [("own", 2)]) (blkOk_by (by kernel_rfl)) (b := (.nm 2)) (by decide) (fun _ _ _ _ _ => (pg_name (i := 2) sc_is_within.nd rfl (by first | exact .inl rfl | exact .inr rfl))) (fun _ _ _ _ _ => dts_nil) (fun _ _ _ _ _ => (de_cmp (od_in (hu65 hr)) (de_var (pv 2)) (de_var (pv 1)) (by rfl)))) da_nil))))
/-! ### subsets (rank 1); slots 0:things 1:found 2:own 3:lot -/
theorem sc_subsets : FnScope ["things", "found", "own", "lot"] ["things"] (defScope s_subsets) := ⟨rfl, rfl, rfl, by decide +kernel, rfl, by decide +kernel, by decide +kernel⟩
theorem bd_subsets : BindsSt s_subsets "subsets" ["things"] := fun _ _ _ _ _ _ us hl => match us, hl with | [_], _ => rfl
def w_subsets : W2 := (wSeq (wSet 1 (rLst (rCons (rTup rNil) rNil))) (wSeq (wFor (.nm 2) (rSeq (rVar 0)) (wSet 1 (rBin phAddL (rVar 1) (rLst' (rLc [3] (rSeq (rVar 1)) (.nm 3) rYes (rTup (rStar (rVar 3) (rCons (rVar 2) rNil)))))))) (wRet (rCall phSorted (rCons (rVar 1) rNil)))))
theorem body_subsets (B : Bl mg) : Body P w K mg base T ["things", "found", "own", "lot"] "subsets" s_subsets 0 (w_subsets) := by
  intro f cdv A outer s H E hr
  exact (dss_cons (ds_set (i := 1) sc_subsets.nd rfl (by first | exact .inl rfl | exact .inr rfl) (de_lst (da_cons (de_tup da_nil) da_nil))) (dss_cons (ds_for PassesOwn.never rfl (di_seq (de_var (pv 0))) (pg_name (i := 2) sc_subsets.nd rfl (by first | exact .inl rfl | exact .inr rfl)) (dss_one (ds_set (i := 1) sc_subsets.nd rfl (by first | exact .inl rfl | exact .inr rfl) (de_bin od_addL (de_var (pv 1)) (de_lc rfl sc_subsets.nd (di_seq (de_var (pv 1))) (own := [("lot", 3)]) (blkOk_by (by kernel_rfl)) (b := (.nm 3)) (by decide) (fun _ _ _ _ _ => (pg_name (i := 3) sc_subsets.nd rfl (by first | exact .inl rfl | exact .inr rfl))) (fun _ _ _ _ _ => dts_nil) (fun _ _ _ _ _ => (de_tup (da_star (de_var (pv 3)) (da_cons (de_var (pv 2)) da_nil))))))))) (dss_one (ds_ret (de_callB (cd_sorted (hu64 hr)) (by rfl) B.sorted_ rfl (da_cons (de_var (pv 1)) da_nil))))))
/-! ### least_sets (rank 5); slots 0:sets 1:found 2:lot 3:own -/
theorem sc_least_sets : FnScope ["sets", "found", "lot", "own"] ["sets"] (defScope s_least_sets) := ⟨rfl, rfl, rfl, by decide +kernel, rfl, by decide +kernel, by decide +kernel⟩
theorem bd_least_sets : BindsSt s_least_sets "least_sets" ["sets"] := fun _ _ _ _ _ _ us hl => match us, hl with | [_], _ => rfl
def w_least_sets (f_by_size f_set_of f_is_within : Phi) : W2 := (wSeq (wOwn 1 fun ρ ds => rNil ρ ds ∧ ds.length ≤ 1000000) (wSeq (wFor (.nm 2) (rSeq (rCallN 1 f_by_size (rCons (rCallN 1 f_set_of (rCons (rVar 0) rNil)) rNil))) (wIf (rNot (rOf (rCall phAny (rCons (rLst' (rLc [3] (rSeq (rVar 1)) (.nm 3) rYes (rCallN 2 f_is_within (rCons (rVar 3) (rCons (rVar 2) rNil))))) rNil)))) (wApp 1 (rVar 2)) wNext)) (wRet (rCall phTuple (rCons (rCall phSorted (rCons (rVar 1) rNil)) rNil)))))
theorem body_least_sets {f_by_size f_set_of f_is_within : Phi} (B : Bl mg) (d_by_size : PDef P w K mg base T "by_size" 4 1 f_by_size) (d_set_of : PDef P w K mg base T "set_of" 1 1 f_set_of) (d_is_within : PDef P w K mg base T "is_within" 1 2 f_is_within) : Body P w K mg base T ["sets", "found", "lot", "own"] "least_sets" s_least_sets 4 (w_least_sets f_by_size f_set_of f_is_within) := by
  intro f cdv A outer s H E hr
  exact (dss_cons (ds_own (i := 1) sc_least_sets.nd rfl (by first | exact .inl rfl | exact .inr rfl) (df_lst da_nil)) (dss_cons (ds_for PassesOwn.never rfl (di_seq (de_callD d_by_size hr (by decide) (by rfl) (da_cons (de_callD d_set_of hr (by decide) (by rfl) (da_cons (de_var (pv 0)) da_nil)) da_nil))) (pg_name (i := 2) sc_least_sets.nd rfl (by first | exact .inl rfl | exact .inr rfl)) (dss_one (ds_if (dt_not (dt_val (de_callB (cd_any rfl) (by rfl) B.any_ rfl (da_cons (de_lc rfl sc_least_sets.nd (di_seq (de_var (pv 1))) (own := [("own", 3)]) (blkOk_by (by kernel_rfl)) (b := (.nm 3)) (by decide) (fun _ _ _ _ _ => (pg_name (i := 3) sc_least_sets.nd rfl (by first | exact .inl rfl | exact .inr rfl))) (fun _ _ _ _ _ => dts_nil) (fun _ _ _ _ _ => (de_callD d_is_within hr (by decide) (by rfl) (da_cons (de_var (pv 3)) (da_cons (de_var (pv 2)) da_nil))))) da_nil)))) (dss_one (ds_append (i := 1) (pv 1) (de_var (pv 2)))) dss_nil))) (dss_one (ds_ret (de_callTy cd_tuple (by rfl) B.tuple_ rfl (da_cons (de_callB (cd_sorted (hu64 hr)) (by rfl) B.sorted_ rfl (da_cons (de_var (pv 1)) da_nil)) da_nil))))))
/-! ### check_keys (rank 1); slots 0:vault 1:names 2:name -/
theorem sc_check_keys : FnScope ["vault", "names", "name"] ["vault", "names"] (defScope s_check_keys) := ⟨rfl, rfl, rfl, by decide +kernel, rfl, by decide +kernel, by decide +kernel⟩
theorem bd_check_keys : BindsSt s_check_keys "check_keys" ["vault", "names"] := fun _ _ _ _ _ _ us hl => match us, hl with | [_, _], _ => rfl
def w_check_keys : W2 := (wFor (.nm 2) (rSeq (rVar 1)) (wIf (rOf (rBin (phIn true) (rVar 2) (rBin phIx (rVar 0) (rK (.int 0))))) wNo wNext))
theorem body_check_keys (B : Bl mg) : Body P w K mg base T ["vault", "names", "name"] "check_keys" s_check_keys 0 (w_check_keys) := by
  intro f cdv A outer s H E hr
  exact (dss_one (ds_for PassesOwn.never rfl (di_seq (de_var (pv 1))) (pg_name (i := 2) sc_check_keys.nd rfl (by first | exact .inl rfl | exact .inr rfl)) (dss_one (ds_if (dt_cmp (od_notIn (hu65 hr)) (de_var (pv 2)) (de_ix (de_var (pv 0)) de_int (fun _ _ => rfl)) (by rfl)) dss_never dss_nil))))
/-! ### has_opener (rank 2); slots 0:openers 1:held 2:own -/
theorem sc_has_opener : FnScope ["openers", "held", "own"] ["openers", "held"] (defScope s_has_opener) := ⟨rfl, rfl, rfl, by decide +kernel, rfl, by decide +kernel, by decide +kernel⟩
theorem bd_has_opener : BindsSt s_has_opener "has_opener" ["openers", "held"] := fun _ _ _ _ _ _ us hl => match us, hl with | [_, _], _ => rfl
def w_has_opener (f_is_within : Phi) : W2 := (wRet (rCall phAny (rCons (rLst' (rLc [2] (rSeq (rVar 0)) (.nm 2) rYes (rCallN 2 f_is_within (rCons (rVar 2) (rCons (rVar 1) rNil))))) rNil)))
theorem body_has_opener {f_is_within : Phi} (B : Bl mg) (d_is_within : PDef P w K mg base T "is_within" 1 2 f_is_within) : Body P w K mg base T ["openers", "held", "own"] "has_opener" s_has_opener 1 (w_has_opener f_is_within) := by
  intro f cdv A outer s H E hr
  exact (dss_one (ds_ret (de_callB (cd_any rfl) (by rfl) B.any_ rfl (da_cons (de_lc rfl sc_has_opener.nd (di_seq (de_var (pv 0))) (own := [("own", 2)]) (blkOk_by (by kernel_rfl)) (b := (.nm 2)) (by decide) (fun _ _ _ _ _ => (pg_name (i := 2) sc_has_opener.nd rfl (by first | exact .inl rfl | exact .inr rfl))) (fun _ _ _ _ _ => dts_nil) (fun _ _ _ _ _ => (de_callD d_is_within hr (by decide) (by rfl) (da_cons (de_var (pv 2)) (da_cons (de_var (pv 1)) da_nil))))) da_nil))))
/-! ### open_table (rank 13); slots 0:vault 1:openers 2:lot -/
theorem sc_open_table : FnScope ["vault", "openers", "lot"] ["vault"] (defScope s_open_table) := ⟨rfl, rfl, rfl, by decide +kernel, rfl, by decide +kernel, by decide +kernel⟩
theorem bd_open_table : BindsSt s_open_table "open_table" ["vault"] := fun _ _ _ _ _ _ us hl => match us, hl with | [_], _ => rfl
def w_open_table (f_tupled f_subsets f_has_opener : Phi) : W2 := (wSeq (wSet 1 (rCallN 1 f_tupled (rCons (rBin phIx (rVar 0) (rK (.int 1))) rNil))) (wRet (rDcT [2] (rSeq (rCallN 1 f_subsets (rCons (rCallN 1 f_tupled (rCons (rBin phIx (rVar 0) (rK (.int 0))) rNil)) rNil))) (.nm 2) (rVar 2) (rCallN 2 f_has_opener (rCons (rVar 1) (rCons (rVar 2) rNil))))))
theorem body_open_table {f_tupled f_subsets f_has_opener : Phi} (B : Bl mg) (d_tupled : PDef P w K mg base T "tupled" 12 1 f_tupled) (d_subsets : PDef P w K mg base T "subsets" 1 1 f_subsets) (d_has_opener : PDef P w K mg base T "has_opener" 2 2 f_has_opener) : Body P w K mg base T ["vault", "openers", "lot"] "open_table" s_open_table 12 (w_open_table f_tupled f_subsets f_has_opener) := by
  intro f cdv A outer s H E hr
  exact (dss_cons (ds_set (i := 1) sc_open_table.nd rfl (by first | exact .inl rfl | exact .inr rfl) (de_callD d_tupled hr (by decide) (by rfl) (da_cons (de_ix (de_var (pv 0)) de_int (fun _ _ => rfl)) da_nil))) (dss_one (ds_ret (de_dcT rfl (hu65 hr) sc_open_table.nd (di_seq (de_callD d_subsets hr (by decide) (by rfl) (da_cons (de_callD d_tupled hr (by decide) (by rfl) (da_cons (de_ix (de_var (pv 0)) de_int (fun _ _ => rfl)) da_nil)) da_nil))) (own := [("lot", 2)]) (blkOk_by (by kernel_rfl)) (b := (.nm 2)) (by decide) (fun _ _ _ _ _ => (pg_name (i := 2) sc_open_table.nd rfl (by first | exact .inl rfl | exact .inr rfl))) (fun _ _ _ _ _ => (de_var (pv 2))) (fun _ _ _ _ _ => (de_callD d_has_opener hr (by decide) (by rfl) (da_cons (de_var (pv 1)) (da_cons (de_var (pv 2)) da_nil))))))))
/-! ### least_vault (rank 13); slots 0:keys 1:sets 2:own -/
theorem sc_least_vault : FnScope ["keys", "sets", "own"] ["keys", "sets"] (defScope s_least_vault) := ⟨rfl, rfl, rfl, by decide +kernel, rfl, by decide +kernel, by decide +kernel⟩
theorem bd_least_vault : BindsSt s_least_vault "least_vault" ["keys", "sets"] := fun _ _ _ _ _ _ us hl => match us, hl with | [_, _], _ => rfl
def w_least_vault (f_least_sets f_tupled f_set_of : Phi) : W2 := (wRet (rTup (rCons (rCallN 1 f_tupled (rCons (rVar 0) rNil)) (rCons (rCallN 1 f_least_sets (rCons (rLst' (rLc [2] (rSeq (rCallN 1 f_tupled (rCons (rVar 1) rNil))) (.nm 2) rYes (rCallN 1 f_set_of (rCons (rVar 2) rNil)))) rNil)) rNil))))
theorem body_least_vault {f_least_sets f_tupled f_set_of : Phi} (B : Bl mg) (d_least_sets : PDef P w K mg base T "least_sets" 5 1 f_least_sets) (d_tupled : PDef P w K mg base T "tupled" 12 1 f_tupled) (d_set_of : PDef P w K mg base T "set_of" 1 1 f_set_of) : Body P w K mg base T ["keys", "sets", "own"] "least_vault" s_least_vault 12 (w_least_vault f_least_sets f_tupled f_set_of) := by
  intro f cdv A outer s H E hr
  exact (dss_one (ds_ret (de_tup (da_cons (de_callD d_tupled hr (by decide) (by rfl) (da_cons (de_var (pv 0)) da_nil)) (da_cons (de_callD d_least_sets hr (by decide) (by rfl) (da_cons (de_lc rfl sc_least_vault.nd (di_seq (de_callD d_tupled hr (by decide) (by rfl) (da_cons (de_var (pv 1)) da_nil))) (own := [("own", 2)]) (blkOk_by (by kernel_rfl)) (b := (.nm 2)) (by decide) (fun _ _ _ _ _ => (pg_name (i := 2) sc_least_vault.nd rfl (by first | exact .inl rfl | exact .inr rfl))) (fun _ _ _ _ _ => dts_nil) (fun _ _ _ _ _ => (de_callD d_set_of hr (by decide) (by rfl) (da_cons (de_var (pv 2)) da_nil)))) da_nil)) da_nil)))))
/-! ### meets (rank 1); slots 0:some 1:others 2:key -/
theorem sc_meets : FnScope ["some", "others", "key"] ["some", "others"] (defScope s_meets) := ⟨rfl, rfl, rfl, by decide +kernel, rfl, by decide +kernel, by decide +kernel⟩
theorem bd_meets : BindsSt s_meets "meets" ["some", "others"] := fun _ _ _ _ _ _ us hl => match us, hl with | [_, _], _ => rfl
def w_meets : W2 := (wRet (rCall phAny (rCons (rLst' (rLc [2] (rSeq (rVar 0)) (.nm 2) rYes (rBin (phIn false) (rVar 2) (rVar 1)))) rNil)))
theorem body_meets (B : Bl mg) : Body P w K mg base T ["some", "others", "key"] "meets" s_meets 0 (w_meets) := by
  intro f cdv A outer s H E hr
  exact (dss_one (ds_ret (de_callB (cd_any rfl) (by rfl) B.any_ rfl (da_cons (de_lc rfl sc_meets.nd (di_seq (de_var (pv 0))) (own := [("key", 2)]) (blkOk_by (by kernel_rfl)) (b := (.nm 2)) (by decide) (fun _ _ _ _ _ => (pg_name (i := 2) sc_meets.nd rfl (by first | exact .inl rfl | exact .inr rfl))) (fun _ _ _ _ _ => dts_nil) (fun _ _ _ _ _ => (de_cmp (od_in (hu65 hr)) (de_var (pv 2)) (de_var (pv 1)) (by rfl)))) da_nil))))
/-! ### barriers_of (rank 6); slots 0:openers 1:found 2:opener 3:fine 4:later 5:own 6:key -/
theorem sc_barriers_of : FnScope ["openers", "found", "opener", "fine", "later", "own", "key"] ["openers"] (defScope s_barriers_of) := ⟨rfl, rfl, rfl, by decide +kernel, rfl, by decide +kernel, by decide +kernel⟩
theorem bd_barriers_of : BindsSt s_barriers_of "barriers_of" ["openers"] := fun _ _ _ _ _ _ us hl => match us, hl with | [_], _ => rfl
def w_barriers_of (f_meets f_set_of f_least_sets : Phi) : W2 := (wSeq (wSet 1 (rTup (rCons (rTup rNil) rNil))) (wSeq (wFor (.nm 2) (rSeq (rVar 0)) (wSeq (wSet 3 (rLst' (rLc [5] (rSeq (rVar 1)) (.nm 5) (rOf (rCallN 2 f_meets (rCons (rVar 5) (rCons (rVar 2) rNil)))) (rVar 5)))) (wSeq (wSet 4 (rLst' (rLc2 [5, 6] (rSeq (rVar 1)) (.nm 5) (rNot (rOf (rCallN 2 f_meets (rCons (rVar 5) (rCons (rVar 2) rNil))))) (rSeq (rVar 2)) (.nm 6) rYes (rCallN 1 f_set_of (rCons (rLst (rStar (rVar 5) (rCons (rVar 6) rNil))) rNil))))) (wSet 1 (rCallN 1 f_least_sets (rCons (rLst (rStar (rVar 3) (rStar (rVar 4) rNil))) rNil)))))) (wRet (rVar 1))))
theorem body_barriers_of {f_meets f_set_of f_least_sets : Phi} (B : Bl mg) (d_meets : PDef P w K mg base T "meets" 1 2 f_meets) (d_set_of : PDef P w K mg base T "set_of" 1 1 f_set_of) (d_least_sets : PDef P w K mg base T "least_sets" 5 1 f_least_sets) : Body P w K mg base T ["openers", "found", "opener", "fine", "later", "own", "key"] "barriers_of" s_barriers_of 5 (w_barriers_of f_meets f_set_of f_least_sets) := by
  intro f cdv A outer s H E hr
  exact (dss_cons (ds_set (i := 1) sc_barriers_of.nd rfl (by first | exact .inl rfl | exact .inr rfl) (de_tup (da_cons (de_tup da_nil) da_nil))) (dss_cons (ds_for PassesOwn.never rfl (di_seq (de_var (pv 0))) (pg_name (i := 2) sc_barriers_of.nd rfl (by first | exact .inl rfl | exact .inr rfl)) (dss_cons (ds_setLc (i := 3) rfl sc_barriers_of.nd rfl rfl (by rfl) (di_seq (de_var (pv 1))) (own := [("own", 5)]) (blkOk_by (by kernel_rfl)) (b := (.nm 5)) (by decide) (fun _ _ _ _ _ => (pg_name (i := 5) sc_barriers_of.nd rfl (by first | exact .inl rfl | exact .inr rfl))) (fun _ _ _ _ _ => (dts_one (dt_val (de_callD d_meets hr (by decide) (by rfl) (da_cons (de_var (pv 5)) (da_cons (de_var (pv 2)) da_nil)))))) (fun _ _ _ _ _ => (de_var (pv 5)))) (dss_cons (ds_setLc2 (i := 4) rfl sc_barriers_of.nd rfl rfl (by rfl) (di_seq (de_var (pv 1))) (own := [("own", 5), ("key", 6)]) (blkOk_by (by kernel_rfl)) (b := (.nm 5)) (b1 := (.nm 6)) (by decide) (by decide) (fun _ _ _ _ _ => (pg_name (i := 5) sc_barriers_of.nd rfl (by first | exact .inl rfl | exact .inr rfl))) (fun _ _ _ _ _ => (dts_one (dt_not (dt_val (de_callD d_meets hr (by decide) (by rfl) (da_cons (de_var (pv 5)) (da_cons (de_var (pv 2)) da_nil))))))) (fun _ _ _ _ _ => (di_seq (de_var (pv 2)))) (fun _ _ _ _ _ => (pg_name (i := 6) sc_barriers_of.nd rfl (by first | exact .inl rfl | exact .inr rfl))) (fun _ _ _ _ _ => dts_nil) (fun _ _ _ _ _ => (de_callD d_set_of hr (by decide) (by rfl) (da_cons (de_lst (da_star (de_var (pv 5)) (da_cons (de_var (pv 6)) da_nil))) da_nil)))) (dss_one (ds_set (i := 1) sc_barriers_of.nd rfl (by first | exact .inl rfl | exact .inr rfl) (de_callD d_least_sets hr (by decide) (by rfl) (da_cons (de_lst (da_star (de_var (pv 3)) (da_star (de_var (pv 4)) da_nil))) da_nil))))))) (dss_one (ds_ret (de_var (pv 1))))))
/-! ### barriers (rank 13); slots 0:vault -/
theorem sc_barriers : FnScope ["vault"] ["vault"] (defScope s_barriers) := ⟨rfl, rfl, rfl, by decide +kernel, rfl, by decide +kernel, by decide +kernel⟩
theorem bd_barriers : BindsSt s_barriers "barriers" ["vault"] := fun _ _ _ _ _ _ us hl => match us, hl with | [_], _ => rfl
def w_barriers (f_barriers_of f_tupled : Phi) : W2 := (wRet (rCallN 1 f_barriers_of (rCons (rCallN 1 f_tupled (rCons (rBin phIx (rVar 0) (rK (.int 1))) rNil)) rNil)))
theorem body_barriers {f_barriers_of f_tupled : Phi} (B : Bl mg) (d_barriers_of : PDef P w K mg base T "barriers_of" 6 1 f_barriers_of) (d_tupled : PDef P w K mg base T "tupled" 12 1 f_tupled) : Body P w K mg base T ["vault"] "barriers" s_barriers 12 (w_barriers f_barriers_of f_tupled) := by
  intro f cdv A outer s H E hr
  exact (dss_one (ds_ret (de_callD d_barriers_of hr (by decide) (by rfl) (da_cons (de_callD d_tupled hr (by decide) (by rfl) (da_cons (de_ix (de_var (pv 0)) de_int (fun _ _ => rfl)) da_nil)) da_nil))))
/-! ### undoes (rank 1); slots 0:hanging 1:held 2:lock 3:holders 4:name -/
theorem sc_undoes : FnScope ["hanging", "held", "lock", "holders", "name"] ["hanging", "held"] (defScope s_undoes) := ⟨rfl, rfl, rfl, by decide +kernel, rfl, by decide +kernel, by decide +kernel⟩
theorem bd_undoes : BindsSt s_undoes "undoes" ["hanging", "held"] := fun _ _ _ _ _ _ us hl => match us, hl with | [_, _], _ => rfl
def w_undoes : W2 := (wRet (rCall phAll (rCons (rLst' (rLc [2, 3] (rSeq (rVar 0)) (.tp [2, 3]) rYes (rCall phAny (rCons (rLst' (rLc [4] (rSeq (rVar 3)) (.nm 4) rYes (rBin (phIn false) (rVar 4) (rVar 1)))) rNil)))) rNil)))
theorem body_undoes (B : Bl mg) : Body P w K mg base T ["hanging", "held", "lock", "holders", "name"] "undoes" s_undoes 0 (w_undoes) := by
  intro f cdv A outer s H E hr
  exact (dss_one (ds_ret (de_callB (cd_all rfl) (by rfl) B.all_ rfl (da_cons (de_lc rfl sc_undoes.nd (di_seq (de_var (pv 0))) (own := [("lock", 2), ("holders", 3)]) (blkOk_by (by kernel_rfl)) (b := (.tp [2, 3])) (by decide) (fun _ _ _ _ _ => (pg_tup rfl (pgs_cons (pg_name (i := 2) sc_undoes.nd rfl (by first | exact .inl rfl | exact .inr rfl)) (pgs_cons (pg_name (i := 3) sc_undoes.nd rfl (by first | exact .inl rfl | exact .inr rfl)) pgs_nil)))) (fun _ _ _ _ _ => dts_nil) (fun _ _ _ _ _ => (de_callB (cd_any rfl) (by rfl) B.any_ rfl (da_cons (de_lc rfl sc_undoes.nd (di_seq (de_var (pv 3))) (own := [("name", 4)]) (blkOk_by (by kernel_rfl)) (b := (.nm 4)) (by decide) (fun _ _ _ _ _ => (pg_name (i := 4) sc_undoes.nd rfl (by first | exact .inl rfl | exact .inr rfl))) (fun _ _ _ _ _ => dts_nil) (fun _ _ _ _ _ => (de_cmp (od_in (hu65 hr)) (de_var (pv 4)) (de_var (pv 1)) (by rfl)))) da_nil)))) da_nil))))
/-! ### undone_vault (rank 13); slots 0:vault 1:hanging 2:own -/
theorem sc_undone_vault : FnScope ["vault", "hanging", "own"] ["vault", "hanging"] (defScope s_undone_vault) := ⟨rfl, rfl, rfl, by decide +kernel, rfl, by decide +kernel, by decide +kernel⟩
theorem bd_undone_vault : BindsSt s_undone_vault "undone_vault" ["vault", "hanging"] := fun _ _ _ _ _ _ us hl => match us, hl with | [_, _], _ => rfl
def w_undone_vault (f_barriers_of f_tupled : Phi) : W2 := (wRet (rTup (rCons (rCallN 1 f_tupled (rCons (rBin phIx (rVar 0) (rK (.int 0))) rNil)) (rCons (rCallN 1 f_barriers_of (rCons (rLst' (rLc [2] (rSeq (rCallN 1 f_tupled (rCons (rVar 1) rNil))) (.nm 2) rYes (rBin phIx (rVar 2) (rK (.int 1))))) rNil)) rNil))))
theorem body_undone_vault {f_barriers_of f_tupled : Phi} (B : Bl mg) (d_barriers_of : PDef P w K mg base T "barriers_of" 6 1 f_barriers_of) (d_tupled : PDef P w K mg base T "tupled" 12 1 f_tupled) : Body P w K mg base T ["vault", "hanging", "own"] "undone_vault" s_undone_vault 12 (w_undone_vault f_barriers_of f_tupled) := by
  intro f cdv A outer s H E hr
  exact (dss_one (ds_ret (de_tup (da_cons (de_callD d_tupled hr (by decide) (by rfl) (da_cons (de_ix (de_var (pv 0)) de_int (fun _ _ => rfl)) da_nil)) (da_cons (de_callD d_barriers_of hr (by decide) (by rfl) (da_cons (de_lc rfl sc_undone_vault.nd (di_seq (de_callD d_tupled hr (by decide) (by rfl) (da_cons (de_var (pv 1)) da_nil))) (own := [("own", 2)]) (blkOk_by (by kernel_rfl)) (b := (.nm 2)) (by decide) (fun _ _ _ _ _ => (pg_name (i := 2) sc_undone_vault.nd rfl (by first | exact .inl rfl | exact .inr rfl))) (fun _ _ _ _ _ => dts_nil) (fun _ _ _ _ _ => (de_ix (de_var (pv 2)) de_int (fun _ _ => rfl)))) da_nil)) da_nil)))))
/-! ### is_right (rank 15); slots 0:vault 1:hanging -/
theorem sc_is_right : FnScope ["vault", "hanging"] ["vault", "hanging"] (defScope s_is_right) := ⟨rfl, rfl, rfl, by decide +kernel, rfl, by decide +kernel, by decide +kernel⟩
theorem bd_is_right : BindsSt s_is_right "is_right" ["vault", "hanging"] := fun _ _ _ _ _ _ us hl => match us, hl with | [_, _], _ => rfl
def w_is_right (f_wrong_held : Phi) : W2 := (wRet (rIsN (rCallN 2 f_wrong_held (rCons (rVar 0) (rCons (rVar 1) rNil)))))
theorem body_is_right {f_wrong_held : Phi} (B : Bl mg) (d_wrong_held : PDef P w K mg base T "wrong_held" 14 2 f_wrong_held) : Body P w K mg base T ["vault", "hanging"] "is_right" s_is_right 14 (w_is_right f_wrong_held) := by
  intro f cdv A outer s H E hr
  exact (dss_one (ds_ret (de_isN (de_callD d_wrong_held hr (by decide) (by rfl) (da_cons (de_var (pv 0)) (da_cons (de_var (pv 1)) da_nil))))))
/-! ### wrong_held (rank 14); slots 0:vault 1:hanging 2:found 3:lot 4:is_open -/
theorem sc_wrong_held : FnScope ["vault", "hanging", "found", "lot", "is_open"] ["vault", "hanging"] (defScope s_wrong_held) := ⟨rfl, rfl, rfl, by decide +kernel, rfl, by decide +kernel, by decide +kernel⟩
theorem bd_wrong_held : BindsSt s_wrong_held "wrong_held" ["vault", "hanging"] := fun _ _ _ _ _ _ us hl => match us, hl with | [_, _], _ => rfl
def w_wrong_held (f_by_size f_open_table f_undoes : Phi) : W2 := (wSeq (wSet 2 (rCallN 1 f_by_size (rCons (rLst' (rLc [3, 4] (rItems (rCallN 1 f_open_table (rCons (rVar 0) rNil))) (.tp [3, 4]) (rOf (rBin phNe (rVar 4) (rCallN 2 f_undoes (rCons (rVar 1) (rCons (rVar 3) rNil))))) (rVar 3))) rNil))) (wRet (rIf (rOf (rBin (phI fun i j => decide (j < i)) (rCall phLen (rCons (rVar 2) rNil)) (rK (.int 0)))) (rBin phIx (rVar 2) (rK (.int 0))) (rK .none))))
theorem body_wrong_held {f_by_size f_open_table f_undoes : Phi} (B : Bl mg) (d_by_size : PDef P w K mg base T "by_size" 4 1 f_by_size) (d_open_table : PDef P w K mg base T "open_table" 13 1 f_open_table) (d_undoes : PDef P w K mg base T "undoes" 1 2 f_undoes) : Body P w K mg base T ["vault", "hanging", "found", "lot", "is_open"] "wrong_held" s_wrong_held 13 (w_wrong_held f_by_size f_open_table f_undoes) := by
  intro f cdv A outer s H E hr
  exact (dss_cons (ds_set (i := 2) sc_wrong_held.nd rfl (by first | exact .inl rfl | exact .inr rfl) (de_callD d_by_size hr (by decide) (by rfl) (da_cons (de_lc rfl sc_wrong_held.nd (di_items (de_callD d_open_table hr (by decide) (by rfl) (da_cons (de_var (pv 0)) da_nil))) (own := [("lot", 3), ("is_open", 4)]) (blkOk_by (by kernel_rfl)) (b := (.tp [3, 4])) (by decide) (fun _ _ _ _ _ => (pg_tup rfl (pgs_cons (pg_name (i := 3) sc_wrong_held.nd rfl (by first | exact .inl rfl | exact .inr rfl)) (pgs_cons (pg_name (i := 4) sc_wrong_held.nd rfl (by first | exact .inl rfl | exact .inr rfl)) pgs_nil)))) (fun _ _ _ _ _ => (dts_one (dt_cmp (od_ne (hu64 hr)) (de_var (pv 4)) (de_callD d_undoes hr (by decide) (by rfl) (da_cons (de_var (pv 1)) (da_cons (de_var (pv 3)) da_nil))) (by rfl)))) (fun _ _ _ _ _ => (de_var (pv 3)))) da_nil))) (dss_one (ds_ret (de_if (dt_cmp (od_gt) (de_callB cd_len (by rfl) B.len_ rfl (da_cons (de_var (pv 2)) da_nil)) de_int (by rfl)) (de_ix (de_var (pv 2)) de_int (fun _ _ => rfl)) de_non))))
/-! ### fewest_locks (rank 14); slots 0:vault -/
theorem sc_fewest_locks : FnScope ["vault"] ["vault"] (defScope s_fewest_locks) := ⟨rfl, rfl, rfl, by decide +kernel, rfl, by decide +kernel, by decide +kernel⟩
theorem bd_fewest_locks : BindsSt s_fewest_locks "fewest_locks" ["vault"] := fun _ _ _ _ _ _ us hl => match us, hl with | [_], _ => rfl
def w_fewest_locks (f_barriers : Phi) : W2 := (wRet (rCall phLen (rCons (rCallN 1 f_barriers (rCons (rVar 0) rNil)) rNil)))
theorem body_fewest_locks {f_barriers : Phi} (B : Bl mg) (d_barriers : PDef P w K mg base T "barriers" 13 1 f_barriers) : Body P w K mg base T ["vault"] "fewest_locks" s_fewest_locks 13 (w_fewest_locks f_barriers) := by
  intro f cdv A outer s H E hr
  exact (dss_one (ds_ret (de_callB cd_len (by rfl) B.len_ rfl (da_cons (de_callD d_barriers hr (by decide) (by rfl) (da_cons (de_var (pv 0)) da_nil)) da_nil))))
/-! ### hung (rank 15); slots 0:vault 1:names -/
theorem sc_hung : FnScope ["vault", "names"] ["vault", "names"] (defScope s_hung) := ⟨rfl, rfl, rfl, by decide +kernel, rfl, by decide +kernel, by decide +kernel⟩
theorem bd_hung : BindsSt s_hung "hung" ["vault", "names"] := fun _ _ _ _ _ _ us hl => match us, hl with | [_, _], _ => rfl
def w_hung (f_fewest_locks f_tupled f_barriers : Phi) : W2 := (wSeq (wIf (rOf (rBin (phI fun i j => decide (i < j)) (rCall phLen (rCons (rVar 1) rNil)) (rCallN 1 f_fewest_locks (rCons (rVar 0) rNil)))) wNo wNext) (wRet (rCall phTuple (rCons (rLz (rCallN 1 f_tupled (rCons (rVar 1) rNil)) (rCallN 1 f_barriers (rCons (rVar 0) rNil))) rNil))))
theorem body_hung {f_fewest_locks f_tupled f_barriers : Phi} (B : Bl mg) (d_fewest_locks : PDef P w K mg base T "fewest_locks" 14 1 f_fewest_locks) (d_tupled : PDef P w K mg base T "tupled" 12 1 f_tupled) (d_barriers : PDef P w K mg base T "barriers" 13 1 f_barriers) : Body P w K mg base T ["vault", "names"] "hung" s_hung 14 (w_hung f_fewest_locks f_tupled f_barriers) := by
  intro f cdv A outer s H E hr
  exact (dss_cons (ds_if (dt_cmp (od_lt) (de_callB cd_len (by rfl) B.len_ rfl (da_cons (de_var (pv 1)) da_nil)) (de_callD d_fewest_locks hr (by decide) (by rfl) (da_cons (de_var (pv 0)) da_nil)) (by rfl)) dss_never dss_nil) (dss_one (ds_ret (de_callTy cd_tuple (by rfl) B.tuple_ rfl (da_cons (de_listZip rfl (by rfl) B.list_ (by rfl) B.zip_ (de_callD d_tupled hr (by decide) (by rfl) (da_cons (de_var (pv 1)) da_nil)) (de_callD d_barriers hr (by decide) (by rfl) (da_cons (de_var (pv 0)) da_nil))) da_nil)))))
/-! ### trimmed (rank 13); slots 0:hanging 1:needed 2:found 3:seen 4:lock 5:holders 6:own -/
theorem sc_trimmed : FnScope ["hanging", "needed", "found", "seen", "lock", "holders", "own"] ["hanging"] (defScope s_trimmed) := ⟨rfl, rfl, rfl, by decide +kernel, rfl, by decide +kernel, by decide +kernel⟩
theorem bd_trimmed : BindsSt s_trimmed "trimmed" ["hanging"] := fun _ _ _ _ _ _ us hl => match us, hl with | [_], _ => rfl
def w_trimmed (f_least_sets f_tupled : Phi) : W2 := (wSeq (wPar [1, 2, 3] (rcD (rCallN 1 f_least_sets (rCons (rLst' (rLc [6] (rSeq (rCallN 1 f_tupled (rCons (rVar 0) rNil))) (.nm 6) rYes (rBin phIx (rVar 6) (rK (.int 1))))) rNil)) (rcO (fun ρ ds => rNil ρ ds ∧ ds.length ≤ 1000000) (rcO (fun ρ ds => rNil ρ ds ∧ ds.length ≤ 1000000) rcNil)))) (wSeq (wFor (.tp [4, 5]) (rSeq (rCallN 1 f_tupled (rCons (rVar 0) rNil))) (wIf (rAnd (rOf (rBin (phIn false) (rVar 5) (rVar 1))) (rOf (rBin (phIn true) (rVar 5) (rVar 3)))) (wSeq (wApp 2 (rTup (rCons (rVar 4) (rCons (rVar 5) rNil)))) (wApp 3 (rVar 5))) wNext)) (wRet (rCall phTuple (rCons (rVar 2) rNil)))))
theorem body_trimmed {f_least_sets f_tupled : Phi} (B : Bl mg) (d_least_sets : PDef P w K mg base T "least_sets" 5 1 f_least_sets) (d_tupled : PDef P w K mg base T "tupled" 12 1 f_tupled) : Body P w K mg base T ["hanging", "needed", "found", "seen", "lock", "holders", "own"] "trimmed" s_trimmed 12 (w_trimmed f_least_sets f_tupled) := by
  intro f cdv A outer s H E hr
  exact (dss_cons (ds_par3 (ps_par3 rfl sc_trimmed.nd rfl rfl rfl (by decide) (by decide) (by decide) rfl rfl rfl (dc_d (de_callD d_least_sets hr (by decide) (by rfl) (da_cons (de_lc rfl sc_trimmed.nd (di_seq (de_callD d_tupled hr (by decide) (by rfl) (da_cons (de_var (pv 0)) da_nil))) (own := [("own", 6)]) (blkOk_by (by kernel_rfl)) (b := (.nm 6)) (by decide) (fun _ _ _ _ _ => (pg_name (i := 6) sc_trimmed.nd rfl (by first | exact .inl rfl | exact .inr rfl))) (fun _ _ _ _ _ => dts_nil) (fun _ _ _ _ _ => (de_ix (de_var (pv 6)) de_int (fun _ _ => rfl)))) da_nil)) (dc_o (df_lst da_nil) (dc_o (df_lst da_nil) dc_nil))) (by rfl))) (dss_cons (ds_for PassesOwn.never rfl (di_seq (de_callD d_tupled hr (by decide) (by rfl) (da_cons (de_var (pv 0)) da_nil))) (pg_tup rfl (pgs_cons (pg_name (i := 4) sc_trimmed.nd rfl (by first | exact .inl rfl | exact .inr rfl)) (pgs_cons (pg_name (i := 5) sc_trimmed.nd rfl (by first | exact .inl rfl | exact .inr rfl)) pgs_nil))) (dss_one (ds_if (dw_pt (dw_and (dt_cmp (od_in (hu65 hr)) (de_var (pv 5)) (de_var (pv 1)) (by rfl)) (dw_and1 (dt_cmp (od_notIn (hu65 hr)) (de_var (pv 5)) (de_var (pv 3)) (by rfl))))) (dss_cons (ds_append (i := 2) (pv 2) (de_tup (da_cons (de_var (pv 4)) (da_cons (de_var (pv 5)) da_nil)))) (dss_one (ds_append (i := 3) (pv 3) (de_var (pv 5))))) dss_nil))) (dss_one (ds_ret (de_callTy cd_tuple (by rfl) B.tuple_ rfl (da_cons (de_var (pv 2)) da_nil))))))
/-! ### peoples_vault (rank 14); slots 0:vault 1:holders 2:table 3:own 4:key -/
theorem sc_peoples_vault : FnScope ["vault", "holders", "table", "own", "key"] ["vault", "holders"] (defScope s_peoples_vault) := ⟨rfl, rfl, rfl, by decide +kernel, rfl, by decide +kernel, by decide +kernel⟩
theorem bd_peoples_vault : BindsSt s_peoples_vault "peoples_vault" ["vault", "holders"] := fun _ _ _ _ _ _ us hl => match us, hl with | [_, _], _ => rfl
def w_peoples_vault (f_least_vault f_set_of : Phi) : W2 := (wSeq (wSet 2 (rDictZip (rBin phIx (rVar 0) (rK (.int 0))) (rVar 1))) (wRet (rCallN 2 f_least_vault (rCons (rCallN 1 f_set_of (rCons (rVar 1) rNil)) (rCons (rLst' (rLc [3] (rSeq (rBin phIx (rVar 0) (rK (.int 1)))) (.nm 3) rYes (rLst' (rLc [4] (rSeq (rVar 3)) (.nm 4) rYes (rBin phGet (rVar 2) (rVar 4)))))) rNil)))))
theorem body_peoples_vault {f_least_vault f_set_of : Phi} (B : Bl mg) (d_least_vault : PDef P w K mg base T "least_vault" 13 2 f_least_vault) (d_set_of : PDef P w K mg base T "set_of" 1 1 f_set_of) : Body P w K mg base T ["vault", "holders", "table", "own", "key"] "peoples_vault" s_peoples_vault 13 (w_peoples_vault f_least_vault f_set_of) := by
  intro f cdv A outer s H E hr
  exact (dss_cons (ds_set (i := 2) sc_peoples_vault.nd rfl (by first | exact .inl rfl | exact .inr rfl) (de_dictZip rfl (by rfl) B.dict_ (by rfl) B.zip_ (de_ix (de_var (pv 0)) de_int (fun _ _ => rfl)) (de_var (pv 1)))) (dss_one (ds_ret (de_callD d_least_vault hr (by decide) (by rfl) (da_cons (de_callD d_set_of hr (by decide) (by rfl) (da_cons (de_var (pv 1)) da_nil)) (da_cons (de_lc rfl sc_peoples_vault.nd (di_seq (de_ix (de_var (pv 0)) de_int (fun _ _ => rfl))) (own := [("own", 3)]) (blkOk_by (by kernel_rfl)) (b := (.nm 3)) (by decide) (fun _ _ _ _ _ => (pg_name (i := 3) sc_peoples_vault.nd rfl (by first | exact .inl rfl | exact .inr rfl))) (fun _ _ _ _ _ => dts_nil) (fun _ _ _ _ _ => (de_lc rfl sc_peoples_vault.nd (di_seq (de_var (pv 3))) (own := [("key", 4)]) (blkOk_by (by kernel_rfl)) (b := (.nm 4)) (by decide) (fun _ _ _ _ _ => (pg_name (i := 4) sc_peoples_vault.nd rfl (by first | exact .inl rfl | exact .inr rfl))) (fun _ _ _ _ _ => dts_nil) (fun _ _ _ _ _ => (de_get (hu1 hr) (de_var (pv 2)) (de_var (pv 4)) (fun _ _ => rfl)))))) da_nil))))))
/-! ### house (rank 14); slots 0:vault 1:inners 2:table 3:names 4:inner 5:twice 6:sets 7:opener 8:name 9:key -/
theorem sc_house : FnScope ["vault", "inners", "table", "names", "inner", "twice", "sets", "opener", "name", "key"] ["vault", "inners"] (defScope s_house) := ⟨rfl, rfl, rfl, by decide +kernel, rfl, by decide +kernel, by decide +kernel⟩
theorem bd_house : BindsSt s_house "house" ["vault", "inners"] := fun _ _ _ _ _ _ us hl => match us, hl with | [_, _], _ => rfl
def w_house (f_tupledF : PhiF) (f_check_keys f_set_of f_tupled f_ways_of f_least_vault : Phi) : W2 := (wSeq (wExp (rCallN 2 f_check_keys (rCons (rVar 0) (rCons (rLst' (rLc [9, 4] (rSeq (rVar 1)) (.tp [9, 4]) rYes (rVar 9))) rNil)))) (wSeq (wSet 2 (rDictT f_tupledF (rCons (rVar 1) rNil))) (wSeq (wOwn 3 (rLc [8] (rSeq (rBin phIx (rVar 0) (rK (.int 0)))) (.nm 8) (rOf (rBin (phKey true) (rVar 8) (rVar 2))) (rVar 8))) (wSeq (wFor (.nm 4) (rVals (rVar 2)) (wExt 3 (rBin phIx (rVar 4) (rK (.int 0))))) (wFrz (wSeq (wSet 5 (rCallN 1 f_set_of (rCons (rLst' (rLc [8] (rSeq (rVar 3)) (.nm 8) (rOf (rBin (phI fun i j => decide (j < i)) (rCount (rVar 3) (rVar 8)) (rK (.int 1)))) (rVar 8))) rNil))) (wSeq (wIf (rOf (rBin (phI fun i j => decide (j < i)) (rCall phLen (rCons (rVar 5) rNil)) (rK (.int 0)))) wNo wNext) (wSeq (wOwn 6 fun ρ ds => rNil ρ ds ∧ ds.length ≤ 1000000) (wSeq (wFor (.nm 7) (rSeq (rCallN 1 f_tupled (rCons (rBin phIx (rVar 0) (rK (.int 1))) rNil))) (wExt 6 (rCallN 1 f_ways_of (rCons (rLst' (rLc [8] (rSeq (rVar 7)) (.nm 8) rYes (rIf (rOf (rBin (phKey false) (rVar 8) (rVar 2))) (rBin phIx (rBin phGet (rVar 2) (rVar 8)) (rK (.int 1))) (rTup (rCons (rTup (rCons (rVar 8) rNil)) rNil))))) rNil)))) (wRet (rCallN 2 f_least_vault (rCons (rCallN 1 f_set_of (rCons (rVar 3) rNil)) (rCons (rVar 6) rNil)))))))))))))
theorem body_house {f_check_keys f_set_of f_tupled f_ways_of f_least_vault : Phi} {f_tupledF : PhiF} (B : Bl mg) (d_check_keys : PDef P w K mg base T "check_keys" 1 2 f_check_keys) (d_tupledF : PDefF P w K mg base T "tupled" 12 1 f_tupledF) (d_set_of : PDef P w K mg base T "set_of" 1 1 f_set_of) (d_tupled : PDef P w K mg base T "tupled" 12 1 f_tupled) (d_ways_of : PDef P w K mg base T "ways_of" 1 1 f_ways_of) (d_least_vault : PDef P w K mg base T "least_vault" 13 2 f_least_vault) : Body P w K mg base T ["vault", "inners", "table", "names", "inner", "twice", "sets", "opener", "name", "key"] "house" s_house 13 (w_house f_tupledF f_check_keys f_set_of f_tupled f_ways_of f_least_vault) := by
  intro f cdv A outer s H E hr
  exact (dss_cons (ds_expr (de_callD d_check_keys hr (by decide) (by rfl) (da_cons (de_var (pv 0)) (da_cons (de_lc rfl sc_house.nd (di_seq (de_var (pv 1))) (own := [("key", 9), ("inner", 4)]) (blkOk_by (by kernel_rfl)) (b := (.tp [9, 4])) (by decide) (fun _ _ _ _ _ => (pg_tup rfl (pgs_cons (pg_name (i := 9) sc_house.nd rfl (by first | exact .inl rfl | exact .inr rfl)) (pgs_cons (pg_name (i := 4) sc_house.nd rfl (by first | exact .inl rfl | exact .inr rfl)) pgs_nil)))) (fun _ _ _ _ _ => dts_nil) (fun _ _ _ _ _ => (de_var (pv 9)))) da_nil)))) (dss_cons (ds_set (i := 2) sc_house.nd rfl (by first | exact .inl rfl | exact .inr rfl) (de_dictT d_tupledF rfl hr (by decide) (by rfl) B.dict_ rfl (by rfl) (da_cons (de_var (pv 1)) da_nil))) (dss_cons (ds_own (i := 3) sc_house.nd rfl (by first | exact .inl rfl | exact .inr rfl) (df_lc rfl sc_house.nd (di_seq (de_ix (de_var (pv 0)) de_int (fun _ _ => rfl))) (own := [("name", 8)]) (blkOk_by (by kernel_rfl)) (b := (.nm 8)) (by decide) (fun _ _ _ _ _ => (pg_name (i := 8) sc_house.nd rfl (by first | exact .inl rfl | exact .inr rfl))) (fun _ _ _ _ _ => (dts_one (dt_notInD (hu1 hr) (de_var (pv 8)) (de_var (pv 2)) (by rfl)))) (fun _ _ _ _ _ => (de_var (pv 8))))) (dss_cons (ds_for PassesOwn.never rfl (di_values (de_var (pv 2))) (pg_name (i := 4) sc_house.nd rfl (by first | exact .inl rfl | exact .inr rfl)) (dss_one (ds_extend (i := 3) (pv 3) (de_ix (de_var (pv 4)) de_int (fun _ _ => rfl))))) (dss_frz (dss_cons (ds_set (i := 5) sc_house.nd rfl (by first | exact .inl rfl | exact .inr rfl) (de_callD d_set_of hr (by decide) (by rfl) (da_cons (de_lc rfl sc_house.nd (di_seq (de_var (pv 3))) (own := [("name", 8)]) (blkOk_by (by kernel_rfl)) (b := (.nm 8)) (by decide) (fun _ _ _ _ _ => (pg_name (i := 8) sc_house.nd rfl (by first | exact .inl rfl | exact .inr rfl))) (fun _ _ _ _ _ => (dts_one (dt_cmp (od_gt) (de_count (de_var (pv 3)) (de_var (pv 8))) de_int (by rfl)))) (fun _ _ _ _ _ => (de_var (pv 8)))) da_nil))) (dss_cons (ds_if (dt_cmp (od_gt) (de_callB cd_len (by rfl) B.len_ rfl (da_cons (de_var (pv 5)) da_nil)) de_int (by rfl)) dss_never dss_nil) (dss_cons (ds_own (i := 6) sc_house.nd rfl (by first | exact .inl rfl | exact .inr rfl) (df_lst da_nil)) (dss_cons (ds_for PassesOwn.never rfl (di_seq (de_callD d_tupled hr (by decide) (by rfl) (da_cons (de_ix (de_var (pv 0)) de_int (fun _ _ => rfl)) da_nil))) (pg_name (i := 7) sc_house.nd rfl (by first | exact .inl rfl | exact .inr rfl)) (dss_one (ds_extend (i := 6) (pv 6) (de_callD d_ways_of hr (by decide) (by rfl) (da_cons (de_lc rfl sc_house.nd (di_seq (de_var (pv 7))) (own := [("name", 8)]) (blkOk_by (by kernel_rfl)) (b := (.nm 8)) (by decide) (fun _ _ _ _ _ => (pg_name (i := 8) sc_house.nd rfl (by first | exact .inl rfl | exact .inr rfl))) (fun _ _ _ _ _ => dts_nil) (fun _ _ _ _ _ => (de_if (dt_inD (hu1 hr) (de_var (pv 8)) (de_var (pv 2)) (by rfl)) (de_ix (de_get (hu1 hr) (de_var (pv 2)) (de_var (pv 8)) (fun _ _ => rfl)) de_int (fun _ _ => rfl)) (de_tup (da_cons (de_tup (da_cons (de_var (pv 8)) da_nil)) da_nil))))) da_nil))))) (dss_one (ds_ret (de_callD d_least_vault hr (by decide) (by rfl) (da_cons (de_callD d_set_of hr (by decide) (by rfl) (da_cons (de_var (pv 3)) da_nil)) (da_cons (de_var (pv 6)) da_nil))))))))))))))
/-! ### put_in (rank 15); slots 0:vault 1:key 2:inner -/
theorem sc_put_in : FnScope ["vault", "key", "inner"] ["vault", "key", "inner"] (defScope s_put_in) := ⟨rfl, rfl, rfl, by decide +kernel, rfl, by decide +kernel, by decide +kernel⟩
theorem bd_put_in : BindsSt s_put_in "put_in" ["vault", "key", "inner"] := fun _ _ _ _ _ _ us hl => match us, hl with | [_, _, _], _ => rfl
def w_put_in (f_house : Phi) : W2 := (wRet (rCallN 2 f_house (rCons (rVar 0) (rCons (rTup (rCons (rTup (rCons (rVar 1) (rCons (rVar 2) rNil))) rNil)) rNil))))
theorem body_put_in {f_house : Phi} (B : Bl mg) (d_house : PDef P w K mg base T "house" 14 2 f_house) : Body P w K mg base T ["vault", "key", "inner"] "put_in" s_put_in 14 (w_put_in f_house) := by
  intro f cdv A outer s H E hr
  exact (dss_one (ds_ret (de_callD d_house hr (by decide) (by rfl) (da_cons (de_var (pv 0)) (da_cons (de_tup (da_cons (de_tup (da_cons (de_var (pv 1)) (da_cons (de_var (pv 2)) da_nil))) da_nil)) da_nil)))))
/-! ### ways_of (rank 1); slots 0:lots 1:found 2:lot 3:own 4:more -/
theorem sc_ways_of : FnScope ["lots", "found", "lot", "own", "more"] ["lots"] (defScope s_ways_of) := ⟨rfl, rfl, rfl, by decide +kernel, rfl, by decide +kernel, by decide +kernel⟩
theorem bd_ways_of : BindsSt s_ways_of "ways_of" ["lots"] := fun _ _ _ _ _ _ us hl => match us, hl with | [_], _ => rfl
def w_ways_of : W2 := (wSeq (wSet 1 (rLst (rCons (rTup rNil) rNil))) (wSeq (wFor (.nm 2) (rSeq (rVar 0)) (wSet 1 (rLst' (rLc2 [3, 4] (rSeq (rVar 1)) (.nm 3) rYes (rSeq (rVar 2)) (.nm 4) rYes (rTup (rStar (rVar 3) (rStar (rVar 4) rNil))))))) (wRet (rVar 1))))
theorem body_ways_of (B : Bl mg) : Body P w K mg base T ["lots", "found", "lot", "own", "more"] "ways_of" s_ways_of 0 (w_ways_of) := by
  intro f cdv A outer s H E hr
  exact (dss_cons (ds_set (i := 1) sc_ways_of.nd rfl (by first | exact .inl rfl | exact .inr rfl) (de_lst (da_cons (de_tup da_nil) da_nil))) (dss_cons (ds_for PassesOwn.never rfl (di_seq (de_var (pv 0))) (pg_name (i := 2) sc_ways_of.nd rfl (by first | exact .inl rfl | exact .inr rfl)) (dss_one (ds_setLc2 (i := 1) rfl sc_ways_of.nd rfl rfl (by rfl) (di_seq (de_var (pv 1))) (own := [("own", 3), ("more", 4)]) (blkOk_by (by kernel_rfl)) (b := (.nm 3)) (b1 := (.nm 4)) (by decide) (by decide) (fun _ _ _ _ _ => (pg_name (i := 3) sc_ways_of.nd rfl (by first | exact .inl rfl | exact .inr rfl))) (fun _ _ _ _ _ => dts_nil) (fun _ _ _ _ _ => (di_seq (de_var (pv 2)))) (fun _ _ _ _ _ => (pg_name (i := 4) sc_ways_of.nd rfl (by first | exact .inl rfl | exact .inr rfl))) (fun _ _ _ _ _ => dts_nil) (fun _ _ _ _ _ => (de_tup (da_star (de_var (pv 3)) (da_star (de_var (pv 4)) da_nil))))))) (dss_one (ds_ret (de_var (pv 1))))))
/-! ### mattering (rank 13); slots 0:vault 1:name 2:own -/
theorem sc_mattering : FnScope ["vault", "name", "own"] ["vault"] (defScope s_mattering) := ⟨rfl, rfl, rfl, by decide +kernel, rfl, by decide +kernel, by decide +kernel⟩
theorem bd_mattering : BindsSt s_mattering "mattering" ["vault"] := fun _ _ _ _ _ _ us hl => match us, hl with | [_], _ => rfl
def w_mattering (f_tupled : Phi) : W2 := (wRet (rCall phTuple (rCons (rLst' (rLc [1] (rSeq (rCallN 1 f_tupled (rCons (rBin phIx (rVar 0) (rK (.int 0))) rNil))) (.nm 1) (rOf (rCall phAny (rCons (rLst' (rLc [2] (rSeq (rBin phIx (rVar 0) (rK (.int 1)))) (.nm 2) rYes (rBin (phIn false) (rVar 1) (rVar 2)))) rNil))) (rVar 1))) rNil)))
theorem body_mattering {f_tupled : Phi} (B : Bl mg) (d_tupled : PDef P w K mg base T "tupled" 12 1 f_tupled) : Body P w K mg base T ["vault", "name", "own"] "mattering" s_mattering 12 (w_mattering f_tupled) := by
  intro f cdv A outer s H E hr
  exact (dss_one (ds_ret (de_callTy cd_tuple (by rfl) B.tuple_ rfl (da_cons (de_lc rfl sc_mattering.nd (di_seq (de_callD d_tupled hr (by decide) (by rfl) (da_cons (de_ix (de_var (pv 0)) de_int (fun _ _ => rfl)) da_nil))) (own := [("name", 1)]) (blkOk_by (by kernel_rfl)) (b := (.nm 1)) (by decide) (fun _ _ _ _ _ => (pg_name (i := 1) sc_mattering.nd rfl (by first | exact .inl rfl | exact .inr rfl))) (fun _ _ _ _ _ => (dts_one (dt_val (de_callB (cd_any rfl) (by rfl) B.any_ rfl (da_cons (de_lc rfl sc_mattering.nd (di_seq (de_ix (de_var (pv 0)) de_int (fun _ _ => rfl))) (own := [("own", 2)]) (blkOk_by (by kernel_rfl)) (b := (.nm 2)) (by decide) (fun _ _ _ _ _ => (pg_name (i := 2) sc_mattering.nd rfl (by first | exact .inl rfl | exact .inr rfl))) (fun _ _ _ _ _ => dts_nil) (fun _ _ _ _ _ => (de_cmp (od_in (hu65 hr)) (de_var (pv 1)) (de_var (pv 2)) (by rfl)))) da_nil))))) (fun _ _ _ _ _ => (de_var (pv 1)))) da_nil))))
/-! ### parts_by (rank 1); slots 0:openers 1:some 2:rows 3:own 4:outside 5:inside 6:name -/
theorem sc_parts_by : FnScope ["openers", "some", "rows", "own", "outside", "inside", "name"] ["openers", "some"] (defScope s_parts_by) := ⟨rfl, rfl, rfl, by decide +kernel, rfl, by decide +kernel, by decide +kernel⟩
theorem bd_parts_by : BindsSt s_parts_by "parts_by" ["openers", "some"] := fun _ _ _ _ _ _ us hl => match us, hl with | [_, _], _ => rfl
def w_parts_by : W2 := (wSeq (wSet 2 (rLst' (rLc [3] (rSeq (rVar 0)) (.nm 3) rYes (rTup (rCons (rLst' (rLc [6] (rSeq (rVar 3)) (.nm 6) (rOf (rBin (phIn true) (rVar 6) (rVar 1))) (rVar 6))) (rCons (rLst' (rLc [6] (rSeq (rVar 3)) (.nm 6) (rOf (rBin (phIn false) (rVar 6) (rVar 1))) (rVar 6))) rNil)))))) (wRet (rLst' (rLc [4, 5] (rSeq (rVar 2)) (.tp [4, 5]) (rOf (rBin (phI fun i j => decide (j < i)) (rCall phLen (rCons (rVar 5) rNil)) (rK (.int 0)))) (rTup (rCons (rVar 4) (rCons (rVar 5) rNil)))))))
theorem body_parts_by (B : Bl mg) : Body P w K mg base T ["openers", "some", "rows", "own", "outside", "inside", "name"] "parts_by" s_parts_by 0 (w_parts_by) := by
  intro f cdv A outer s H E hr
  exact (dss_cons (ds_setLc (i := 2) rfl sc_parts_by.nd rfl rfl (by rfl) (di_seq (de_var (pv 0))) (own := [("own", 3)]) (blkOk_by (by kernel_rfl)) (b := (.nm 3)) (by decide) (fun _ _ _ _ _ => (pg_name (i := 3) sc_parts_by.nd rfl (by first | exact .inl rfl | exact .inr rfl))) (fun _ _ _ _ _ => dts_nil) (fun _ _ _ _ _ => (de_tup (da_cons (de_lc rfl sc_parts_by.nd (di_seq (de_var (pv 3))) (own := [("name", 6)]) (blkOk_by (by kernel_rfl)) (b := (.nm 6)) (by decide) (fun _ _ _ _ _ => (pg_name (i := 6) sc_parts_by.nd rfl (by first | exact .inl rfl | exact .inr rfl))) (fun _ _ _ _ _ => (dts_one (dt_cmp (od_notIn (hu65 hr)) (de_var (pv 6)) (de_var (pv 1)) (by rfl)))) (fun _ _ _ _ _ => (de_var (pv 6)))) (da_cons (de_lc rfl sc_parts_by.nd (di_seq (de_var (pv 3))) (own := [("name", 6)]) (blkOk_by (by kernel_rfl)) (b := (.nm 6)) (by decide) (fun _ _ _ _ _ => (pg_name (i := 6) sc_parts_by.nd rfl (by first | exact .inl rfl | exact .inr rfl))) (fun _ _ _ _ _ => (dts_one (dt_cmp (od_in (hu65 hr)) (de_var (pv 6)) (de_var (pv 1)) (by rfl)))) (fun _ _ _ _ _ => (de_var (pv 6)))) da_nil))))) (dss_one (ds_ret (de_lc rfl sc_parts_by.nd (di_seq (de_var (pv 2))) (own := [("outside", 4), ("inside", 5)]) (blkOk_by (by kernel_rfl)) (b := (.tp [4, 5])) (by decide) (fun _ _ _ _ _ => (pg_tup rfl (pgs_cons (pg_name (i := 4) sc_parts_by.nd rfl (by first | exact .inl rfl | exact .inr rfl)) (pgs_cons (pg_name (i := 5) sc_parts_by.nd rfl (by first | exact .inl rfl | exact .inr rfl)) pgs_nil)))) (fun _ _ _ _ _ => (dts_one (dt_cmp (od_gt) (de_callB cd_len (by rfl) B.len_ rfl (da_cons (de_var (pv 5)) da_nil)) de_int (by rfl)))) (fun _ _ _ _ _ => (de_tup (da_cons (de_var (pv 4)) (da_cons (de_var (pv 5)) da_nil))))))))
/-! ### against (rank 2); slots 0:vault 1:some 2:table 3:rows 4:outside 5:inside 6:far 7:mate -/
theorem sc_against : FnScope ["vault", "some", "table", "rows", "outside", "inside", "far", "mate"] ["vault", "some", "table"] (defScope s_against) := ⟨rfl, rfl, rfl, by decide +kernel, rfl, by decide +kernel, by decide +kernel⟩
theorem bd_against : BindsSt s_against "against" ["vault", "some", "table"] := fun _ _ _ _ _ _ us hl => match us, hl with | [_, _, _], _ => rfl
def w_against (f_parts_by f_set_of : Phi) : W2 := (wSeq (wSet 3 (rCallN 2 f_parts_by (rCons (rBin phIx (rVar 0) (rK (.int 1))) (rCons (rVar 1) rNil)))) (wSeq (wFor (.tp [4, 5]) (rSeq (rVar 3)) (wFor (.tp [6, 7]) (rSeq (rVar 3)) (wIf (rNot (rOf (rBin phGet (rVar 2) (rCallN 1 f_set_of (rCons (rLst (rStar (rVar 4) (rStar (rVar 7) rNil))) rNil))))) (wRet (rTup (rCons (rCallN 1 f_set_of (rCons (rLst (rStar (rVar 4) (rStar (rVar 5) rNil))) rNil)) (rCons (rCallN 1 f_set_of (rCons (rLst (rStar (rVar 6) (rStar (rVar 7) rNil))) rNil)) rNil)))) wNext))) (wRet (rK .none))))
theorem body_against {f_parts_by f_set_of : Phi} (B : Bl mg) (d_parts_by : PDef P w K mg base T "parts_by" 1 2 f_parts_by) (d_set_of : PDef P w K mg base T "set_of" 1 1 f_set_of) : Body P w K mg base T ["vault", "some", "table", "rows", "outside", "inside", "far", "mate"] "against" s_against 1 (w_against f_parts_by f_set_of) := by
  intro f cdv A outer s H E hr
  exact (dss_cons (ds_set (i := 3) sc_against.nd rfl (by first | exact .inl rfl | exact .inr rfl) (de_callD d_parts_by hr (by decide) (by rfl) (da_cons (de_ix (de_var (pv 0)) de_int (fun _ _ => rfl)) (da_cons (de_var (pv 1)) da_nil)))) (dss_cons (ds_for PassesOwn.never rfl (di_seq (de_var (pv 3))) (pg_tup rfl (pgs_cons (pg_name (i := 4) sc_against.nd rfl (by first | exact .inl rfl | exact .inr rfl)) (pgs_cons (pg_name (i := 5) sc_against.nd rfl (by first | exact .inl rfl | exact .inr rfl)) pgs_nil))) (dss_one (ds_for PassesOwn.never rfl (di_seq (de_var (pv 3))) (pg_tup rfl (pgs_cons (pg_name (i := 6) sc_against.nd rfl (by first | exact .inl rfl | exact .inr rfl)) (pgs_cons (pg_name (i := 7) sc_against.nd rfl (by first | exact .inl rfl | exact .inr rfl)) pgs_nil))) (dss_one (ds_if (dt_not (dt_val (de_get (hu1 hr) (de_var (pv 2)) (de_callD d_set_of hr (by decide) (by rfl) (da_cons (de_lst (da_star (de_var (pv 4)) (da_star (de_var (pv 7)) da_nil))) da_nil)) (fun _ _ => rfl)))) (dss_one (ds_ret (de_tup (da_cons (de_callD d_set_of hr (by decide) (by rfl) (da_cons (de_lst (da_star (de_var (pv 4)) (da_star (de_var (pv 5)) da_nil))) da_nil)) (da_cons (de_callD d_set_of hr (by decide) (by rfl) (da_cons (de_lst (da_star (de_var (pv 6)) (da_star (de_var (pv 7)) da_nil))) da_nil)) da_nil))))) dss_nil))))) (dss_one (ds_ret de_non))))
/-! ### committees (rank 14); slots 0:vault 1:table 2:lot -/
theorem sc_committees : FnScope ["vault", "table", "lot"] ["vault"] (defScope s_committees) := ⟨rfl, rfl, rfl, by decide +kernel, rfl, by decide +kernel, by decide +kernel⟩
theorem bd_committees : BindsSt s_committees "committees" ["vault"] := fun _ _ _ _ _ _ us hl => match us, hl with | [_], _ => rfl
def w_committees (f_open_table f_subsets f_mattering f_against : Phi) : W2 := (wSeq (wSet 1 (rCallN 1 f_open_table (rCons (rVar 0) rNil))) (wRet (rLst' (rLc [2] (rSeq (rCallN 1 f_subsets (rCons (rCallN 1 f_mattering (rCons (rVar 0) rNil)) rNil))) (.nm 2) (rAnd (rOf (rBin (phI fun i j => decide (j < i)) (rCall phLen (rCons (rVar 2) rNil)) (rK (.int 0)))) (rOf (rIsN (rCallN 3 f_against (rCons (rVar 0) (rCons (rVar 2) (rCons (rVar 1) rNil))))))) (rVar 2)))))
theorem body_committees {f_open_table f_subsets f_mattering f_against : Phi} (B : Bl mg) (d_open_table : PDef P w K mg base T "open_table" 13 1 f_open_table) (d_subsets : PDef P w K mg base T "subsets" 1 1 f_subsets) (d_mattering : PDef P w K mg base T "mattering" 13 1 f_mattering) (d_against : PDef P w K mg base T "against" 2 3 f_against) : Body P w K mg base T ["vault", "table", "lot"] "committees" s_committees 13 (w_committees f_open_table f_subsets f_mattering f_against) := by
  intro f cdv A outer s H E hr
  exact (dss_cons (ds_set (i := 1) sc_committees.nd rfl (by first | exact .inl rfl | exact .inr rfl) (de_callD d_open_table hr (by decide) (by rfl) (da_cons (de_var (pv 0)) da_nil))) (dss_one (ds_ret (de_lc rfl sc_committees.nd (di_seq (de_callD d_subsets hr (by decide) (by rfl) (da_cons (de_callD d_mattering hr (by decide) (by rfl) (da_cons (de_var (pv 0)) da_nil)) da_nil))) (own := [("lot", 2)]) (blkOk_by (by kernel_rfl)) (b := (.nm 2)) (by decide) (fun _ _ _ _ _ => (pg_name (i := 2) sc_committees.nd rfl (by first | exact .inl rfl | exact .inr rfl))) (fun _ _ _ _ _ => (dts_one (dw_pt (dw_and (dt_cmp (od_gt) (de_callB cd_len (by rfl) B.len_ rfl (da_cons (de_var (pv 2)) da_nil)) de_int (by rfl)) (dw_and1 (dt_isN (de_callD d_against hr (by decide) (by rfl) (da_cons (de_var (pv 0)) (da_cons (de_var (pv 2)) (da_cons (de_var (pv 1)) da_nil)))))))))) (fun _ _ _ _ _ => (de_var (pv 2)))))))
/-! ### keys_without (rank 13); slots 0:vault 1:some 2:name -/
theorem sc_keys_without : FnScope ["vault", "some", "name"] ["vault", "some"] (defScope s_keys_without) := ⟨rfl, rfl, rfl, by decide +kernel, rfl, by decide +kernel, by decide +kernel⟩
theorem bd_keys_without : BindsSt s_keys_without "keys_without" ["vault", "some"] := fun _ _ _ _ _ _ us hl => match us, hl with | [_, _], _ => rfl
def w_keys_without (f_tupled : Phi) : W2 := (wRet (rCall phTuple (rCons (rLst' (rLc [2] (rSeq (rCallN 1 f_tupled (rCons (rBin phIx (rVar 0) (rK (.int 0))) rNil))) (.nm 2) (rOf (rBin (phIn true) (rVar 2) (rVar 1))) (rVar 2))) rNil)))
theorem body_keys_without {f_tupled : Phi} (B : Bl mg) (d_tupled : PDef P w K mg base T "tupled" 12 1 f_tupled) : Body P w K mg base T ["vault", "some", "name"] "keys_without" s_keys_without 12 (w_keys_without f_tupled) := by
  intro f cdv A outer s H E hr
  exact (dss_one (ds_ret (de_callTy cd_tuple (by rfl) B.tuple_ rfl (da_cons (de_lc rfl sc_keys_without.nd (di_seq (de_callD d_tupled hr (by decide) (by rfl) (da_cons (de_ix (de_var (pv 0)) de_int (fun _ _ => rfl)) da_nil))) (own := [("name", 2)]) (blkOk_by (by kernel_rfl)) (b := (.nm 2)) (by decide) (fun _ _ _ _ _ => (pg_name (i := 2) sc_keys_without.nd rfl (by first | exact .inl rfl | exact .inr rfl))) (fun _ _ _ _ _ => (dts_one (dt_cmp (od_notIn (hu65 hr)) (de_var (pv 2)) (de_var (pv 1)) (by rfl)))) (fun _ _ _ _ _ => (de_var (pv 2)))) da_nil))))
/-! ### lost (rank 14); slots 0:vault 1:some 2:near 3:own 4:name -/
theorem sc_lost : FnScope ["vault", "some", "near", "own", "name"] ["vault", "some"] (defScope s_lost) := ⟨rfl, rfl, rfl, by decide +kernel, rfl, by decide +kernel, by decide +kernel⟩
theorem bd_lost : BindsSt s_lost "lost" ["vault", "some"] := fun _ _ _ _ _ _ us hl => match us, hl with | [_, _], _ => rfl
def w_lost (f_check_keys f_tupled f_least_vault f_keys_without : Phi) : W2 := (wSeq (wExp (rCallN 2 f_check_keys (rCons (rVar 0) (rCons (rVar 1) rNil)))) (wSeq (wSet 2 (rLst' (rLc [3] (rSeq (rCallN 1 f_tupled (rCons (rBin phIx (rVar 0) (rK (.int 1))) rNil))) (.nm 3) (rNot (rOf (rCall phAny (rCons (rLst' (rLc [4] (rSeq (rVar 1)) (.nm 4) rYes (rBin (phIn false) (rVar 4) (rVar 3)))) rNil)))) (rVar 3)))) (wRet (rCallN 2 f_least_vault (rCons (rCallN 2 f_keys_without (rCons (rVar 0) (rCons (rVar 1) rNil))) (rCons (rVar 2) rNil))))))
theorem body_lost {f_check_keys f_tupled f_least_vault f_keys_without : Phi} (B : Bl mg) (d_check_keys : PDef P w K mg base T "check_keys" 1 2 f_check_keys) (d_tupled : PDef P w K mg base T "tupled" 12 1 f_tupled) (d_least_vault : PDef P w K mg base T "least_vault" 13 2 f_least_vault) (d_keys_without : PDef P w K mg base T "keys_without" 13 2 f_keys_without) : Body P w K mg base T ["vault", "some", "near", "own", "name"] "lost" s_lost 13 (w_lost f_check_keys f_tupled f_least_vault f_keys_without) := by
  intro f cdv A outer s H E hr
  exact (dss_cons (ds_expr (de_callD d_check_keys hr (by decide) (by rfl) (da_cons (de_var (pv 0)) (da_cons (de_var (pv 1)) da_nil)))) (dss_cons (ds_setLc (i := 2) rfl sc_lost.nd rfl rfl (by rfl) (di_seq (de_callD d_tupled hr (by decide) (by rfl) (da_cons (de_ix (de_var (pv 0)) de_int (fun _ _ => rfl)) da_nil))) (own := [("own", 3)]) (blkOk_by (by kernel_rfl)) (b := (.nm 3)) (by decide) (fun _ _ _ _ _ => (pg_name (i := 3) sc_lost.nd rfl (by first | exact .inl rfl | exact .inr rfl))) (fun _ _ _ _ _ => (dts_one (dt_not (dt_val (de_callB (cd_any rfl) (by rfl) B.any_ rfl (da_cons (de_lc rfl sc_lost.nd (di_seq (de_var (pv 1))) (own := [("name", 4)]) (blkOk_by (by kernel_rfl)) (b := (.nm 4)) (by decide) (fun _ _ _ _ _ => (pg_name (i := 4) sc_lost.nd rfl (by first | exact .inl rfl | exact .inr rfl))) (fun _ _ _ _ _ => dts_nil) (fun _ _ _ _ _ => (de_cmp (od_in (hu65 hr)) (de_var (pv 4)) (de_var (pv 3)) (by rfl)))) da_nil)))))) (fun _ _ _ _ _ => (de_var (pv 3)))) (dss_one (ds_ret (de_callD d_least_vault hr (by decide) (by rfl) (da_cons (de_callD d_keys_without hr (by decide) (by rfl) (da_cons (de_var (pv 0)) (da_cons (de_var (pv 1)) da_nil))) (da_cons (de_var (pv 2)) da_nil)))))))
/-! ### left_in (rank 14); slots 0:vault 1:some 2:near 3:own 4:name -/
theorem sc_left_in : FnScope ["vault", "some", "near", "own", "name"] ["vault", "some"] (defScope s_left_in) := ⟨rfl, rfl, rfl, by decide +kernel, rfl, by decide +kernel, by decide +kernel⟩
theorem bd_left_in : BindsSt s_left_in "left_in" ["vault", "some"] := fun _ _ _ _ _ _ us hl => match us, hl with | [_, _], _ => rfl
def w_left_in (f_check_keys f_tupled f_least_vault f_keys_without : Phi) : W2 := (wSeq (wExp (rCallN 2 f_check_keys (rCons (rVar 0) (rCons (rVar 1) rNil)))) (wSeq (wSet 2 (rLst' (rLc [3] (rSeq (rCallN 1 f_tupled (rCons (rBin phIx (rVar 0) (rK (.int 1))) rNil))) (.nm 3) rYes (rLst' (rLc [4] (rSeq (rVar 3)) (.nm 4) (rOf (rBin (phIn true) (rVar 4) (rVar 1))) (rVar 4)))))) (wRet (rCallN 2 f_least_vault (rCons (rCallN 2 f_keys_without (rCons (rVar 0) (rCons (rVar 1) rNil))) (rCons (rVar 2) rNil))))))
theorem body_left_in {f_check_keys f_tupled f_least_vault f_keys_without : Phi} (B : Bl mg) (d_check_keys : PDef P w K mg base T "check_keys" 1 2 f_check_keys) (d_tupled : PDef P w K mg base T "tupled" 12 1 f_tupled) (d_least_vault : PDef P w K mg base T "least_vault" 13 2 f_least_vault) (d_keys_without : PDef P w K mg base T "keys_without" 13 2 f_keys_without) : Body P w K mg base T ["vault", "some", "near", "own", "name"] "left_in" s_left_in 13 (w_left_in f_check_keys f_tupled f_least_vault f_keys_without) := by
  intro f cdv A outer s H E hr
  exact (dss_cons (ds_expr (de_callD d_check_keys hr (by decide) (by rfl) (da_cons (de_var (pv 0)) (da_cons (de_var (pv 1)) da_nil)))) (dss_cons (ds_setLc (i := 2) rfl sc_left_in.nd rfl rfl (by rfl) (di_seq (de_callD d_tupled hr (by decide) (by rfl) (da_cons (de_ix (de_var (pv 0)) de_int (fun _ _ => rfl)) da_nil))) (own := [("own", 3)]) (blkOk_by (by kernel_rfl)) (b := (.nm 3)) (by decide) (fun _ _ _ _ _ => (pg_name (i := 3) sc_left_in.nd rfl (by first | exact .inl rfl | exact .inr rfl))) (fun _ _ _ _ _ => dts_nil) (fun _ _ _ _ _ => (de_lc rfl sc_left_in.nd (di_seq (de_var (pv 3))) (own := [("name", 4)]) (blkOk_by (by kernel_rfl)) (b := (.nm 4)) (by decide) (fun _ _ _ _ _ => (pg_name (i := 4) sc_left_in.nd rfl (by first | exact .inl rfl | exact .inr rfl))) (fun _ _ _ _ _ => (dts_one (dt_cmp (od_notIn (hu65 hr)) (de_var (pv 4)) (de_var (pv 1)) (by rfl)))) (fun _ _ _ _ _ => (de_var (pv 4)))))) (dss_one (ds_ret (de_callD d_least_vault hr (by decide) (by rfl) (da_cons (de_callD d_keys_without hr (by decide) (by rfl) (da_cons (de_var (pv 0)) (da_cons (de_var (pv 1)) da_nil))) (da_cons (de_var (pv 2)) da_nil)))))))
/-! ### behind (rank 15); slots 0:vault 1:loss 2:gone 3:stays -/
theorem sc_behind : FnScope ["vault", "loss", "gone", "stays"] ["vault", "loss"] (defScope s_behind) := ⟨rfl, rfl, rfl, by decide +kernel, rfl, by decide +kernel, by decide +kernel⟩
theorem bd_behind : BindsSt s_behind "behind" ["vault", "loss"] := fun _ _ _ _ _ _ us hl => match us, hl with | [_, _], _ => rfl
def w_behind (f_tupled f_check_keys f_left_in f_lost : Phi) : W2 := (wSeq (wUnp [2, 3] (rCallN 1 f_tupled (rCons (rVar 1) rNil))) (wSeq (wExp (rCallN 2 f_check_keys (rCons (rVar 0) (rCons (rLst (rStar (rVar 2) (rStar (rVar 3) rNil))) rNil)))) (wRet (rCallN 2 f_left_in (rCons (rCallN 2 f_lost (rCons (rVar 0) (rCons (rVar 2) rNil))) (rCons (rVar 3) rNil))))))
theorem body_behind {f_tupled f_check_keys f_left_in f_lost : Phi} (B : Bl mg) (d_tupled : PDef P w K mg base T "tupled" 12 1 f_tupled) (d_check_keys : PDef P w K mg base T "check_keys" 1 2 f_check_keys) (d_left_in : PDef P w K mg base T "left_in" 14 2 f_left_in) (d_lost : PDef P w K mg base T "lost" 14 2 f_lost) : Body P w K mg base T ["vault", "loss", "gone", "stays"] "behind" s_behind 14 (w_behind f_tupled f_check_keys f_left_in f_lost) := by
  intro f cdv A outer s H E hr
  exact (dss_cons (ds_unp (de_callD d_tupled hr (by decide) (by rfl) (da_cons (de_var (pv 1)) da_nil)) (pg_tup rfl (pgs_cons (pg_name (i := 2) sc_behind.nd rfl (by first | exact .inl rfl | exact .inr rfl)) (pgs_cons (pg_name (i := 3) sc_behind.nd rfl (by first | exact .inl rfl | exact .inr rfl)) pgs_nil)))) (dss_cons (ds_expr (de_callD d_check_keys hr (by decide) (by rfl) (da_cons (de_var (pv 0)) (da_cons (de_lst (da_star (de_var (pv 2)) (da_star (de_var (pv 3)) da_nil))) da_nil)))) (dss_one (ds_ret (de_callD d_left_in hr (by decide) (by rfl) (da_cons (de_callD d_lost hr (by decide) (by rfl) (da_cons (de_var (pv 0)) (da_cons (de_var (pv 2)) da_nil))) (da_cons (de_var (pv 3)) da_nil)))))))
/-! ### _law_same (rank 14); slots 0:_law_got 1:_law_goal 2:_law_mine_so 3:_law_own -/
theorem sc__law_same : FnScope ["_law_got", "_law_goal", "_law_mine_so", "_law_own"] ["_law_got", "_law_goal"] (defScope s_law_same) := ⟨rfl, rfl, rfl, by decide +kernel, rfl, by decide +kernel, by decide +kernel⟩
theorem bd__law_same : BindsSt s_law_same "_law_same" ["_law_got", "_law_goal"] := fun _ _ _ _ _ _ us hl => match us, hl with | [_, _], _ => rfl
def w__law_same (f__law_same : Phi) : W2 := (wSeq (wIf (rOf (rIsi2 (rVar 1) "list" "tuple")) (wSeq (wIf (rOr (rOf (rBin phNe (rIsi1 (rVar 0) "list") (rIsi1 (rVar 1) "list"))) (rOf (rBin phNe (rIsi1 (rVar 0) "tuple") (rIsi1 (rVar 1) "tuple")))) (wRet (rK (.bool false))) wNext) (wRet (rAndV (rBin phEq (rCall phLen (rCons (rVar 0) rNil)) (rCall phLen (rCons (rVar 1) rNil))) (rCall phAll (rCons (rLst' (rLc [2, 3] (rZip (rVar 0) (rVar 1)) (.tp [2, 3]) rYes (rCallN 2 f__law_same (rCons (rVar 2) (rCons (rVar 3) rNil))))) rNil))))) wNext) (wSeq (wIf (rOr (rOf (rIsN (rVar 1))) (rOf (rIsi2 (rVar 1) "bool" "str"))) (wRet (rAndV (rBin phEq (rVar 0) (rVar 1)) (rAndV (rBin phEq (rIsi1 (rVar 0) "bool") (rIsi1 (rVar 1) "bool")) (rBin phEq (rIsN (rVar 0)) (rIsN (rVar 1)))))) wNext) (wRet (rAndV (rIsi1 (rVar 0) "int") (rAndV (rNotV (rIsi1 (rVar 0) "bool")) (rBin phEq (rVar 0) (rVar 1)))))))
theorem body__law_same {f__law_same : Phi} {k : Nat} (hk : k ≤ 100) (B : Bl mg) (d__law_same : PDef P w K mg base T "_law_same" k 2 f__law_same) : Body P w K mg base T ["_law_got", "_law_goal", "_law_mine_so", "_law_own"] "_law_same" s_law_same k (w__law_same f__law_same) := by
  intro f cdv A outer s H E hr
  exact (dss_cons (ds_if (dt_val (de_isi2 (C := "list") (C' := "tuple") (by decide) (by decide) (by rfl) B.isinstance_ (de_var (pv 1)) (pe_bltn (by rfl) B.list_ rfl rfl) (pe_bltn (by rfl) B.tuple_ rfl rfl))) (dss_cons (ds_if (dw_pt (dw_or (dt_cmp (od_ne (hu64 hr)) (de_isi1 (C := "list") (by decide) (by rfl) B.isinstance_ (de_var (pv 0)) (pe_bltn (by rfl) B.list_ rfl rfl)) (de_isi1 (C := "list") (by decide) (by rfl) B.isinstance_ (de_var (pv 1)) (pe_bltn (by rfl) B.list_ rfl rfl)) (by rfl)) (dw_or1 (dt_cmp (od_ne (hu64 hr)) (de_isi1 (C := "tuple") (by decide) (by rfl) B.isinstance_ (de_var (pv 0)) (pe_bltn (by rfl) B.tuple_ rfl rfl)) (de_isi1 (C := "tuple") (by decide) (by rfl) B.isinstance_ (de_var (pv 1)) (pe_bltn (by rfl) B.tuple_ rfl rfl)) (by rfl))))) (dss_one (ds_ret de_bl)) dss_nil) (dss_one (ds_ret (de_and (de_cmp (od_eq (hu64 hr)) (de_callB cd_len (by rfl) B.len_ rfl (da_cons (de_var (pv 0)) da_nil)) (de_callB cd_len (by rfl) B.len_ rfl (da_cons (de_var (pv 1)) da_nil)) (by rfl)) (de_one (de_callB (cd_all rfl) (by rfl) B.all_ rfl (da_cons (de_lc rfl sc__law_same.nd (di_zip (by rfl) B.zip_ (de_var (pv 0)) (de_var (pv 1))) (own := [("_law_mine_so", 2), ("_law_own", 3)]) (blkOk_by (by kernel_rfl)) (b := (.tp [2, 3])) (by decide) (fun _ _ _ _ _ => (pg_tup rfl (pgs_cons (pg_name (i := 2) sc__law_same.nd rfl (by first | exact .inl rfl | exact .inr rfl)) (pgs_cons (pg_name (i := 3) sc__law_same.nd rfl (by first | exact .inl rfl | exact .inr rfl)) pgs_nil)))) (fun _ _ _ _ _ => dts_nil) (fun _ _ _ _ _ => (de_callD d__law_same hr (Nat.le_refl _) (by rfl) (da_cons (de_var (pv 2)) (da_cons (de_var (pv 3)) da_nil))))) da_nil))))))) dss_nil) (dss_cons (ds_if (dw_pt (dw_or (dt_isN (de_var (pv 1))) (dw_or1 (dt_val (de_isi2 (C := "bool") (C' := "str") (by decide) (by decide) (by rfl) B.isinstance_ (de_var (pv 1)) (pe_bltn (by rfl) B.bool_ rfl rfl) (pe_bltn (by rfl) B.str_ rfl rfl)))))) (dss_one (ds_ret (de_and (de_cmp (od_eq (hu64 hr)) (de_var (pv 0)) (de_var (pv 1)) (by rfl)) (de_and (de_cmp (od_eq (hu64 hr)) (de_isi1 (C := "bool") (by decide) (by rfl) B.isinstance_ (de_var (pv 0)) (pe_bltn (by rfl) B.bool_ rfl rfl)) (de_isi1 (C := "bool") (by decide) (by rfl) B.isinstance_ (de_var (pv 1)) (pe_bltn (by rfl) B.bool_ rfl rfl)) (by rfl)) (de_one (de_cmp (od_eq (hu64 hr)) (de_isN (de_var (pv 0))) (de_isN (de_var (pv 1))) (by rfl))))))) dss_nil) (dss_one (ds_ret (de_and (de_isi1 (C := "int") (by decide) (by rfl) B.isinstance_ (de_var (pv 0)) (pe_bltn (by rfl) B.int_ rfl rfl)) (de_and (de_not (de_isi1 (C := "bool") (by decide) (by rfl) B.isinstance_ (de_var (pv 0)) (pe_bltn (by rfl) B.bool_ rfl rfl))) (de_one (de_cmp (od_eq (hu64 hr)) (de_var (pv 0)) (de_var (pv 1)) (by rfl)))))))))
/-! ### _law_subs (rank 1); slots 0:_law_things 1:_law_found 2:_law_own 3:_law_far -/
theorem sc__law_subs : FnScope ["_law_things", "_law_found", "_law_own", "_law_far"] ["_law_things"] (defScope s_law_subs) := ⟨rfl, rfl, rfl, by decide +kernel, rfl, by decide +kernel, by decide +kernel⟩
theorem bd__law_subs : BindsSt s_law_subs "_law_subs" ["_law_things"] := fun _ _ _ _ _ _ us hl => match us, hl with | [_], _ => rfl
def w__law_subs : W2 := (wSeq (wSet 1 (rLst (rCons (rTup rNil) rNil))) (wSeq (wFor (.nm 2) (rSeq (rVar 0)) (wSet 1 (rBin phAddL (rVar 1) (rLst' (rLc [3] (rSeq (rVar 1)) (.nm 3) rYes (rBin phAddT (rVar 3) (rTup (rCons (rVar 2) rNil)))))))) (wRet (rLst' (rLc [3] (rSeq (rCall phSorted (rCons (rLst' (rLc [3] (rSeq (rVar 1)) (.nm 3) rYes (rTup (rCons (rCall phLen (rCons (rVar 3) rNil)) (rCons (rVar 3) rNil))))) rNil))) (.nm 3) rYes (rBin phIx (rVar 3) (rK (.int 1))))))))
theorem body__law_subs (B : Bl mg) : Body P w K mg base T ["_law_things", "_law_found", "_law_own", "_law_far"] "_law_subs" s_law_subs 0 (w__law_subs) := by
  intro f cdv A outer s H E hr
  exact (dss_cons (ds_set (i := 1) sc__law_subs.nd rfl (by first | exact .inl rfl | exact .inr rfl) (de_lst (da_cons (de_tup da_nil) da_nil))) (dss_cons (ds_for PassesOwn.never rfl (di_seq (de_var (pv 0))) (pg_name (i := 2) sc__law_subs.nd rfl (by first | exact .inl rfl | exact .inr rfl)) (dss_one (ds_set (i := 1) sc__law_subs.nd rfl (by first | exact .inl rfl | exact .inr rfl) (de_bin od_addL (de_var (pv 1)) (de_lc rfl sc__law_subs.nd (di_seq (de_var (pv 1))) (own := [("_law_far", 3)]) (blkOk_by (by kernel_rfl)) (b := (.nm 3)) (by decide) (fun _ _ _ _ _ => (pg_name (i := 3) sc__law_subs.nd rfl (by first | exact .inl rfl | exact .inr rfl))) (fun _ _ _ _ _ => dts_nil) (fun _ _ _ _ _ => (de_bin od_addT (de_var (pv 3)) (de_tup (da_cons (de_var (pv 2)) da_nil))))))))) (dss_one (ds_ret (de_lc rfl sc__law_subs.nd (di_seq (de_callB (cd_sorted (hu64 hr)) (by rfl) B.sorted_ rfl (da_cons (de_lc rfl sc__law_subs.nd (di_seq (de_var (pv 1))) (own := [("_law_far", 3)]) (blkOk_by (by kernel_rfl)) (b := (.nm 3)) (by decide) (fun _ _ _ _ _ => (pg_name (i := 3) sc__law_subs.nd rfl (by first | exact .inl rfl | exact .inr rfl))) (fun _ _ _ _ _ => dts_nil) (fun _ _ _ _ _ => (de_tup (da_cons (de_callB cd_len (by rfl) B.len_ rfl (da_cons (de_var (pv 3)) da_nil)) (da_cons (de_var (pv 3)) da_nil))))) da_nil))) (own := [("_law_far", 3)]) (blkOk_by (by kernel_rfl)) (b := (.nm 3)) (by decide) (fun _ _ _ _ _ => (pg_name (i := 3) sc__law_subs.nd rfl (by first | exact .inl rfl | exact .inr rfl))) (fun _ _ _ _ _ => dts_nil) (fun _ _ _ _ _ => (de_ix (de_var (pv 3)) de_int (fun _ _ => rfl))))))))
/-! ### _law_inside (rank 1); slots 0:_law_some 1:_law_others 2:_law_own -/
theorem sc__law_inside : FnScope ["_law_some", "_law_others", "_law_own"] ["_law_some", "_law_others"] (defScope s_law_inside) := ⟨rfl, rfl, rfl, by decide +kernel, rfl, by decide +kernel, by decide +kernel⟩
theorem bd__law_inside : BindsSt s_law_inside "_law_inside" ["_law_some", "_law_others"] := fun _ _ _ _ _ _ us hl => match us, hl with | [_, _], _ => rfl
def w__law_inside : W2 := (wRet (rBin phEq (rLst' (rLc [2] (rSeq (rVar 0)) (.nm 2) (rOf (rBin (phIn true) (rVar 2) (rVar 1))) (rVar 2))) (rLst rNil)))
theorem body__law_inside (B : Bl mg) : Body P w K mg base T ["_law_some", "_law_others", "_law_own"] "_law_inside" s_law_inside 0 (w__law_inside) := by
  intro f cdv A outer s H E hr
  exact (dss_one (ds_ret (de_cmp (od_eq (hu64 hr)) (de_lc rfl sc__law_inside.nd (di_seq (de_var (pv 0))) (own := [("_law_own", 2)]) (blkOk_by (by kernel_rfl)) (b := (.nm 2)) (by decide) (fun _ _ _ _ _ => (pg_name (i := 2) sc__law_inside.nd rfl (by first | exact .inl rfl | exact .inr rfl))) (fun _ _ _ _ _ => (dts_one (dt_cmp (od_notIn (hu65 hr)) (de_var (pv 2)) (de_var (pv 1)) (by rfl)))) (fun _ _ _ _ _ => (de_var (pv 2)))) (de_lst da_nil) (by rfl))))
/-! ### _law_least (rank 2); slots 0:_law_sets_so 1:_law_pool 2:_law_own 3:_law_far -/
theorem sc__law_least : FnScope ["_law_sets_so", "_law_pool", "_law_own", "_law_far"] ["_law_sets_so"] (defScope s_law_least) := ⟨rfl, rfl, rfl, by decide +kernel, rfl, by decide +kernel, by decide +kernel⟩
theorem bd__law_least : BindsSt s_law_least "_law_least" ["_law_sets_so"] := fun _ _ _ _ _ _ us hl => match us, hl with | [_], _ => rfl
def w__law_least (f__law_inside : Phi) : W2 := (wSeq (wSet 1 (rSset (rLst' (rLc [2] (rSeq (rVar 0)) (.nm 2) rYes (rCall phTuple (rCons (rSset (rVar 2)) rNil)))))) (wRet (rCall phTuple (rCons (rLst' (rLc [2] (rSeq (rVar 1)) (.nm 2) (rOf (rBin phEq (rLst' (rLc [3] (rSeq (rVar 1)) (.nm 3) (rAnd (rOf (rBin phNe (rVar 3) (rVar 2))) (rOf (rCallN 2 f__law_inside (rCons (rVar 3) (rCons (rVar 2) rNil))))) (rVar 3))) (rLst rNil))) (rVar 2))) rNil))))
theorem body__law_least {f__law_inside : Phi} (B : Bl mg) (d__law_inside : PDef P w K mg base T "_law_inside" 1 2 f__law_inside) : Body P w K mg base T ["_law_sets_so", "_law_pool", "_law_own", "_law_far"] "_law_least" s_law_least 1 (w__law_least f__law_inside) := by
  intro f cdv A outer s H E hr
  exact (dss_cons (ds_set (i := 1) sc__law_least.nd rfl (by first | exact .inl rfl | exact .inr rfl) (de_sset rfl (hu64 hr) (by rfl) B.sorted_ (by rfl) B.set_ (de_lc rfl sc__law_least.nd (di_seq (de_var (pv 0))) (own := [("_law_own", 2)]) (blkOk_by (by kernel_rfl)) (b := (.nm 2)) (by decide) (fun _ _ _ _ _ => (pg_name (i := 2) sc__law_least.nd rfl (by first | exact .inl rfl | exact .inr rfl))) (fun _ _ _ _ _ => dts_nil) (fun _ _ _ _ _ => (de_callTy cd_tuple (by rfl) B.tuple_ rfl (da_cons (de_sset rfl (hu64 hr) (by rfl) B.sorted_ (by rfl) B.set_ (de_var (pv 2))) da_nil)))))) (dss_one (ds_ret (de_callTy cd_tuple (by rfl) B.tuple_ rfl (da_cons (de_lc rfl sc__law_least.nd (di_seq (de_var (pv 1))) (own := [("_law_own", 2)]) (blkOk_by (by kernel_rfl)) (b := (.nm 2)) (by decide) (fun _ _ _ _ _ => (pg_name (i := 2) sc__law_least.nd rfl (by first | exact .inl rfl | exact .inr rfl))) (fun _ _ _ _ _ => (dts_one (dt_cmp (od_eq (hu64 hr)) (de_lc rfl sc__law_least.nd (di_seq (de_var (pv 1))) (own := [("_law_far", 3)]) (blkOk_by (by kernel_rfl)) (b := (.nm 3)) (by decide) (fun _ _ _ _ _ => (pg_name (i := 3) sc__law_least.nd rfl (by first | exact .inl rfl | exact .inr rfl))) (fun _ _ _ _ _ => (dts_one (dw_pt (dw_and (dt_cmp (od_ne (hu64 hr)) (de_var (pv 3)) (de_var (pv 2)) (by rfl)) (dw_and1 (dt_val (de_callD d__law_inside hr (by decide) (by rfl) (da_cons (de_var (pv 3)) (da_cons (de_var (pv 2)) da_nil))))))))) (fun _ _ _ _ _ => (de_var (pv 3)))) (de_lst da_nil) (by rfl)))) (fun _ _ _ _ _ => (de_var (pv 2)))) da_nil)))))
/-! ### _law_opens (rank 2); slots 0:_law_vault_so 1:_law_held 2:_law_own -/
theorem sc__law_opens : FnScope ["_law_vault_so", "_law_held", "_law_own"] ["_law_vault_so", "_law_held"] (defScope s_law_opens) := ⟨rfl, rfl, rfl, by decide +kernel, rfl, by decide +kernel, by decide +kernel⟩
theorem bd__law_opens : BindsSt s_law_opens "_law_opens" ["_law_vault_so", "_law_held"] := fun _ _ _ _ _ _ us hl => match us, hl with | [_, _], _ => rfl
def w__law_opens (f__law_inside : Phi) : W2 := (wRet (rBin phNe (rLst' (rLc [2] (rSeq (rBin phIx (rVar 0) (rK (.int 1)))) (.nm 2) (rOf (rCallN 2 f__law_inside (rCons (rVar 2) (rCons (rVar 1) rNil)))) (rVar 2))) (rLst rNil)))
theorem body__law_opens {f__law_inside : Phi} (B : Bl mg) (d__law_inside : PDef P w K mg base T "_law_inside" 1 2 f__law_inside) : Body P w K mg base T ["_law_vault_so", "_law_held", "_law_own"] "_law_opens" s_law_opens 1 (w__law_opens f__law_inside) := by
  intro f cdv A outer s H E hr
  exact (dss_one (ds_ret (de_cmp (od_ne (hu64 hr)) (de_lc rfl sc__law_opens.nd (di_seq (de_ix (de_var (pv 0)) de_int (fun _ _ => rfl))) (own := [("_law_own", 2)]) (blkOk_by (by kernel_rfl)) (b := (.nm 2)) (by decide) (fun _ _ _ _ _ => (pg_name (i := 2) sc__law_opens.nd rfl (by first | exact .inl rfl | exact .inr rfl))) (fun _ _ _ _ _ => (dts_one (dt_val (de_callD d__law_inside hr (by decide) (by rfl) (da_cons (de_var (pv 2)) (da_cons (de_var (pv 1)) da_nil)))))) (fun _ _ _ _ _ => (de_var (pv 2)))) (de_lst da_nil) (by rfl))))
/-! ### _law_three (rank 1); slots  -/
theorem sc__law_three : FnScope [] [] (defScope s_law_three) := ⟨rfl, rfl, rfl, by decide +kernel, rfl, by decide +kernel, by decide +kernel⟩
theorem bd__law_three : BindsSt s_law_three "_law_three" [] := fun _ _ _ _ _ _ us hl => match us, hl with | [], _ => rfl
def w__law_three : W2 := (wRet (rTup (rCons (rTup (rCons (rK (.str "a")) (rCons (rK (.str "b")) (rCons (rK (.str "c")) rNil)))) (rCons (rTup (rCons (rTup (rCons (rK (.str "a")) (rCons (rK (.str "b")) rNil))) (rCons (rTup (rCons (rK (.str "a")) (rCons (rK (.str "c")) rNil))) (rCons (rTup (rCons (rK (.str "b")) (rCons (rK (.str "c")) rNil))) rNil)))) rNil))))
theorem body__law_three (B : Bl mg) : Body P w K mg base T [] "_law_three" s_law_three 0 (w__law_three) := by
  intro f cdv A outer s H E hr
  exact (dss_one (ds_ret (de_tup (da_cons (de_tup (da_cons de_str (da_cons de_str (da_cons de_str da_nil)))) (da_cons (de_tup (da_cons (de_tup (da_cons de_str (da_cons de_str da_nil))) (da_cons (de_tup (da_cons de_str (da_cons de_str da_nil))) (da_cons (de_tup (da_cons de_str (da_cons de_str da_nil))) da_nil)))) da_nil)))))
/-! ### _law_two (rank 1); slots  -/
theorem sc__law_two : FnScope [] [] (defScope s_law_two) := ⟨rfl, rfl, rfl, by decide +kernel, rfl, by decide +kernel, by decide +kernel⟩
theorem bd__law_two : BindsSt s_law_two "_law_two" [] := fun _ _ _ _ _ _ us hl => match us, hl with | [], _ => rfl
def w__law_two : W2 := (wRet (rTup (rCons (rTup (rCons (rK (.str "a")) (rCons (rK (.str "b")) (rCons (rK (.str "c")) rNil)))) (rCons (rTup (rCons (rTup (rCons (rK (.str "a")) (rCons (rK (.str "c")) rNil))) (rCons (rTup (rCons (rK (.str "b")) (rCons (rK (.str "c")) rNil))) rNil))) rNil))))
theorem body__law_two (B : Bl mg) : Body P w K mg base T [] "_law_two" s_law_two 0 (w__law_two) := by
  intro f cdv A outer s H E hr
  exact (dss_one (ds_ret (de_tup (da_cons (de_tup (da_cons de_str (da_cons de_str (da_cons de_str da_nil)))) (da_cons (de_tup (da_cons (de_tup (da_cons de_str (da_cons de_str da_nil))) (da_cons (de_tup (da_cons de_str (da_cons de_str da_nil))) da_nil))) da_nil)))))
/-! ### _law_six (rank 1); slots 0:_law_sets_so 1:_law_near 2:_law_far -/
theorem sc__law_six : FnScope ["_law_sets_so", "_law_near", "_law_far"] [] (defScope s_law_six) := ⟨rfl, rfl, rfl, by decide +kernel, rfl, by decide +kernel, by decide +kernel⟩
theorem bd__law_six : BindsSt s_law_six "_law_six" [] := fun _ _ _ _ _ _ us hl => match us, hl with | [], _ => rfl
def w__law_six : W2 := (wSeq (wSet 0 (rLst rNil)) (wSeq (wFor (.nm 1) (rSeq (rTup (rCons (rTup (rCons (rK (.str "a")) rNil)) (rCons (rTup (rCons (rK (.str "b")) rNil)) rNil)))) (wSet 0 (rBin phAddL (rBin phAddL (rVar 0) (rLst (rCons (rBin phAddT (rVar 1) (rTup (rCons (rK (.str "c")) (rCons (rK (.str "d")) rNil)))) rNil))) (rLst' (rLc [2] (rSeq (rTup (rCons (rTup (rCons (rK (.str "e")) (rCons (rK (.str "f")) rNil))) (rCons (rTup (rCons (rK (.str "e")) (rCons (rK (.str "g")) rNil))) (rCons (rTup (rCons (rK (.str "f")) (rCons (rK (.str "g")) rNil))) rNil))))) (.nm 2) rYes (rBin phAddT (rVar 1) (rVar 2))))))) (wSeq (wSet 0 (rBin phAddL (rVar 0) (rLst' (rLc [2] (rSeq (rTup (rCons (rTup (rCons (rK (.str "e")) (rCons (rK (.str "f")) rNil))) (rCons (rTup (rCons (rK (.str "e")) (rCons (rK (.str "g")) rNil))) (rCons (rTup (rCons (rK (.str "f")) (rCons (rK (.str "g")) rNil))) rNil))))) (.nm 2) rYes (rBin phAddT (rTup (rCons (rK (.str "c")) (rCons (rK (.str "d")) rNil))) (rVar 2)))))) (wRet (rTup (rCons (rTupS "abcdefg") (rCons (rCall phTuple (rCons (rCall phSorted (rCons (rVar 0) rNil)) rNil)) rNil)))))))
theorem body__law_six (B : Bl mg) : Body P w K mg base T ["_law_sets_so", "_law_near", "_law_far"] "_law_six" s_law_six 0 (w__law_six) := by
  intro f cdv A outer s H E hr
  exact (dss_cons (ds_set (i := 0) sc__law_six.nd rfl (by first | exact .inl rfl | exact .inr rfl) (de_lst da_nil)) (dss_cons (ds_for PassesOwn.never rfl (di_seq (de_tup (da_cons (de_tup (da_cons de_str da_nil)) (da_cons (de_tup (da_cons de_str da_nil)) da_nil)))) (pg_name (i := 1) sc__law_six.nd rfl (by first | exact .inl rfl | exact .inr rfl)) (dss_one (ds_set (i := 0) sc__law_six.nd rfl (by first | exact .inl rfl | exact .inr rfl) (de_bin od_addL (de_bin od_addL (de_var (pv 0)) (de_lst (da_cons (de_bin od_addT (de_var (pv 1)) (de_tup (da_cons de_str (da_cons de_str da_nil)))) da_nil))) (de_lc rfl sc__law_six.nd (di_seq (de_tup (da_cons (de_tup (da_cons de_str (da_cons de_str da_nil))) (da_cons (de_tup (da_cons de_str (da_cons de_str da_nil))) (da_cons (de_tup (da_cons de_str (da_cons de_str da_nil))) da_nil))))) (own := [("_law_far", 2)]) (blkOk_by (by kernel_rfl)) (b := (.nm 2)) (by decide) (fun _ _ _ _ _ => (pg_name (i := 2) sc__law_six.nd rfl (by first | exact .inl rfl | exact .inr rfl))) (fun _ _ _ _ _ => dts_nil) (fun _ _ _ _ _ => (de_bin od_addT (de_var (pv 1)) (de_var (pv 2))))))))) (dss_cons (ds_set (i := 0) sc__law_six.nd rfl (by first | exact .inl rfl | exact .inr rfl) (de_bin od_addL (de_var (pv 0)) (de_lc rfl sc__law_six.nd (di_seq (de_tup (da_cons (de_tup (da_cons de_str (da_cons de_str da_nil))) (da_cons (de_tup (da_cons de_str (da_cons de_str da_nil))) (da_cons (de_tup (da_cons de_str (da_cons de_str da_nil))) da_nil))))) (own := [("_law_far", 2)]) (blkOk_by (by kernel_rfl)) (b := (.nm 2)) (by decide) (fun _ _ _ _ _ => (pg_name (i := 2) sc__law_six.nd rfl (by first | exact .inl rfl | exact .inr rfl))) (fun _ _ _ _ _ => dts_nil) (fun _ _ _ _ _ => (de_bin od_addT (de_tup (da_cons de_str (da_cons de_str da_nil))) (de_var (pv 2))))))) (dss_one (ds_ret (de_tup (da_cons (de_tupS (by rfl) B.tuple_ (by decide) rfl) (da_cons (de_callTy cd_tuple (by rfl) B.tuple_ rfl (da_cons (de_callB (cd_sorted (hu64 hr)) (by rfl) B.sorted_ rfl (da_cons (de_var (pv 0)) da_nil)) da_nil)) da_nil))))))))
/-! ### _law_idle (rank 1); slots 0:_law_vault_so 1:_law_tag 2:_law_own -/
theorem sc__law_idle : FnScope ["_law_vault_so", "_law_tag", "_law_own"] ["_law_vault_so"] (defScope s_law_idle) := ⟨rfl, rfl, rfl, by decide +kernel, rfl, by decide +kernel, by decide +kernel⟩
theorem bd__law_idle : BindsSt s_law_idle "_law_idle" ["_law_vault_so"] := fun _ _ _ _ _ _ us hl => match us, hl with | [_], _ => rfl
def w__law_idle : W2 := (wRet (rCall phTuple (rCons (rLst' (rLc [1] (rSeq (rBin phIx (rVar 0) (rK (.int 0)))) (.nm 1) (rOf (rBin phEq (rLst' (rLc [2] (rSeq (rBin phIx (rVar 0) (rK (.int 1)))) (.nm 2) (rOf (rBin (phIn false) (rVar 1) (rVar 2))) (rVar 2))) (rLst rNil))) (rVar 1))) rNil)))
theorem body__law_idle (B : Bl mg) : Body P w K mg base T ["_law_vault_so", "_law_tag", "_law_own"] "_law_idle" s_law_idle 0 (w__law_idle) := by
  intro f cdv A outer s H E hr
  exact (dss_one (ds_ret (de_callTy cd_tuple (by rfl) B.tuple_ rfl (da_cons (de_lc rfl sc__law_idle.nd (di_seq (de_ix (de_var (pv 0)) de_int (fun _ _ => rfl))) (own := [("_law_tag", 1)]) (blkOk_by (by kernel_rfl)) (b := (.nm 1)) (by decide) (fun _ _ _ _ _ => (pg_name (i := 1) sc__law_idle.nd rfl (by first | exact .inl rfl | exact .inr rfl))) (fun _ _ _ _ _ => (dts_one (dt_cmp (od_eq (hu64 hr)) (de_lc rfl sc__law_idle.nd (di_seq (de_ix (de_var (pv 0)) de_int (fun _ _ => rfl))) (own := [("_law_own", 2)]) (blkOk_by (by kernel_rfl)) (b := (.nm 2)) (by decide) (fun _ _ _ _ _ => (pg_name (i := 2) sc__law_idle.nd rfl (by first | exact .inl rfl | exact .inr rfl))) (fun _ _ _ _ _ => (dts_one (dt_cmp (od_in (hu65 hr)) (de_var (pv 1)) (de_var (pv 2)) (by rfl)))) (fun _ _ _ _ _ => (de_var (pv 2)))) (de_lst da_nil) (by rfl)))) (fun _ _ _ _ _ => (de_var (pv 1)))) da_nil))))
/-! ### _law_locks (rank 1); slots 0:_law_sets_so 1:_law_pool 2:_law_own -/
theorem sc__law_locks : FnScope ["_law_sets_so", "_law_pool", "_law_own"] ["_law_sets_so"] (defScope s_law_locks) := ⟨rfl, rfl, rfl, by decide +kernel, rfl, by decide +kernel, by decide +kernel⟩
theorem bd__law_locks : BindsSt s_law_locks "_law_locks" ["_law_sets_so"] := fun _ _ _ _ _ _ us hl => match us, hl with | [_], _ => rfl
def w__law_locks : W2 := (wSeq (wSet 1 (rBin phAddL (rLst' (rLc [2] (rText (rK (.str "abcdefghijklmnopqrstuvwxyz"))) (.nm 2) rYes (rBin phAddS (rK (.str "k")) (rVar 2)))) (rLst' (rLc [2] (rText (rK (.str "abcdefghij"))) (.nm 2) rYes (rBin phAddS (rK (.str "l")) (rVar 2)))))) (wRet (rCall phTuple (rCons (rLz (rVar 1) (rVar 0)) rNil))))
theorem body__law_locks (B : Bl mg) : Body P w K mg base T ["_law_sets_so", "_law_pool", "_law_own"] "_law_locks" s_law_locks 0 (w__law_locks) := by
  intro f cdv A outer s H E hr
  exact (dss_cons (ds_set (i := 1) sc__law_locks.nd rfl (by first | exact .inl rfl | exact .inr rfl) (de_bin od_addL (de_lc rfl sc__law_locks.nd (di_text de_str) (own := [("_law_own", 2)]) (blkOk_by (by kernel_rfl)) (b := (.nm 2)) (by decide) (fun _ _ _ _ _ => (pg_name (i := 2) sc__law_locks.nd rfl (by first | exact .inl rfl | exact .inr rfl))) (fun _ _ _ _ _ => dts_nil) (fun _ _ _ _ _ => (de_bin od_addS de_str (de_var (pv 2))))) (de_lc rfl sc__law_locks.nd (di_text de_str) (own := [("_law_own", 2)]) (blkOk_by (by kernel_rfl)) (b := (.nm 2)) (by decide) (fun _ _ _ _ _ => (pg_name (i := 2) sc__law_locks.nd rfl (by first | exact .inl rfl | exact .inr rfl))) (fun _ _ _ _ _ => dts_nil) (fun _ _ _ _ _ => (de_bin od_addS de_str (de_var (pv 2))))))) (dss_one (ds_ret (de_callTy cd_tuple (by rfl) B.tuple_ rfl (da_cons (de_listZip rfl (by rfl) B.list_ (by rfl) B.zip_ (de_var (pv 1)) (de_var (pv 0))) da_nil)))))
/-! ### _law_kept (rank 1); slots 0:_law_hanging_so 1:_law_gone_so 2:_law_stays_so 3:_law_found 4:_law_own 5:_law_tag -/
theorem sc__law_kept : FnScope ["_law_hanging_so", "_law_gone_so", "_law_stays_so", "_law_found", "_law_own", "_law_tag"] ["_law_hanging_so", "_law_gone_so", "_law_stays_so"] (defScope s_law_kept) := ⟨rfl, rfl, rfl, by decide +kernel, rfl, by decide +kernel, by decide +kernel⟩
theorem bd__law_kept : BindsSt s_law_kept "_law_kept" ["_law_hanging_so", "_law_gone_so", "_law_stays_so"] := fun _ _ _ _ _ _ us hl => match us, hl with | [_, _, _], _ => rfl
def w__law_kept : W2 := (wSeq (wOwn 3 fun ρ ds => rNil ρ ds ∧ ds.length ≤ 1000000) (wSeq (wFor (.nm 4) (rSeq (rVar 0)) (wIf (rOf (rBin phEq (rLst' (rLc [5] (rSeq (rBin phIx (rVar 4) (rK (.int 1)))) (.nm 5) (rOf (rBin (phIn false) (rVar 5) (rVar 2))) (rVar 5))) (rLst rNil))) (wApp 3 (rTup (rCons (rBin phIx (rVar 4) (rK (.int 0))) (rCons (rCall phTuple (rCons (rLst' (rLc [5] (rSeq (rBin phIx (rVar 4) (rK (.int 1)))) (.nm 5) (rOf (rBin (phIn true) (rVar 5) (rVar 1))) (rVar 5))) rNil)) rNil)))) wNext)) (wRet (rCall phTuple (rCons (rVar 3) rNil)))))
theorem body__law_kept (B : Bl mg) : Body P w K mg base T ["_law_hanging_so", "_law_gone_so", "_law_stays_so", "_law_found", "_law_own", "_law_tag"] "_law_kept" s_law_kept 0 (w__law_kept) := by
  intro f cdv A outer s H E hr
  exact (dss_cons (ds_own (i := 3) sc__law_kept.nd rfl (by first | exact .inl rfl | exact .inr rfl) (df_lst da_nil)) (dss_cons (ds_for PassesOwn.never rfl (di_seq (de_var (pv 0))) (pg_name (i := 4) sc__law_kept.nd rfl (by first | exact .inl rfl | exact .inr rfl)) (dss_one (ds_if (dt_cmp (od_eq (hu64 hr)) (de_lc rfl sc__law_kept.nd (di_seq (de_ix (de_var (pv 4)) de_int (fun _ _ => rfl))) (own := [("_law_tag", 5)]) (blkOk_by (by kernel_rfl)) (b := (.nm 5)) (by decide) (fun _ _ _ _ _ => (pg_name (i := 5) sc__law_kept.nd rfl (by first | exact .inl rfl | exact .inr rfl))) (fun _ _ _ _ _ => (dts_one (dt_cmp (od_in (hu65 hr)) (de_var (pv 5)) (de_var (pv 2)) (by rfl)))) (fun _ _ _ _ _ => (de_var (pv 5)))) (de_lst da_nil) (by rfl)) (dss_one (ds_append (i := 3) (pv 3) (de_tup (da_cons (de_ix (de_var (pv 4)) de_int (fun _ _ => rfl)) (da_cons (de_callTy cd_tuple (by rfl) B.tuple_ rfl (da_cons (de_lc rfl sc__law_kept.nd (di_seq (de_ix (de_var (pv 4)) de_int (fun _ _ => rfl))) (own := [("_law_tag", 5)]) (blkOk_by (by kernel_rfl)) (b := (.nm 5)) (by decide) (fun _ _ _ _ _ => (pg_name (i := 5) sc__law_kept.nd rfl (by first | exact .inl rfl | exact .inr rfl))) (fun _ _ _ _ _ => (dts_one (dt_cmp (od_notIn (hu65 hr)) (de_var (pv 5)) (de_var (pv 1)) (by rfl)))) (fun _ _ _ _ _ => (de_var (pv 5)))) da_nil)) da_nil))))) dss_nil))) (dss_one (ds_ret (de_callTy cd_tuple (by rfl) B.tuple_ rfl (da_cons (de_var (pv 3)) da_nil))))))
/-! ### _law_loss_right (rank 16); slots 0:_law_vault_so 1:_law_hanging_so 2:_law_gone_so 3:_law_stays_so 4:_law_later_so 5:_law_rest 6:_law_got -/
theorem sc__law_loss_right : FnScope ["_law_vault_so", "_law_hanging_so", "_law_gone_so", "_law_stays_so", "_law_later_so", "_law_rest", "_law_got"] ["_law_vault_so", "_law_hanging_so", "_law_gone_so", "_law_stays_so"] (defScope s_law_loss_right) := ⟨rfl, rfl, rfl, by decide +kernel, rfl, by decide +kernel, by decide +kernel⟩
theorem bd__law_loss_right : BindsSt s_law_loss_right "_law_loss_right" ["_law_vault_so", "_law_hanging_so", "_law_gone_so", "_law_stays_so"] := fun _ _ _ _ _ _ us hl => match us, hl with | [_, _, _, _], _ => rfl
def w__law_loss_right (f_behind f__law_kept f_is_right f__law_same f_undone_vault f_trimmed f_fewest_locks f_left_in f_lost : Phi) : W2 := (wSeq (wPar [4, 5] (rcD (rCallN 3 f__law_kept (rCons (rVar 1) (rCons (rVar 2) (rCons (rVar 3) rNil)))) (rcD (rCallN 2 f_behind (rCons (rVar 0) (rCons (rTup (rCons (rVar 2) (rCons (rVar 3) rNil))) rNil))) rcNil))) (wSeq (wIf (rOr (rNot (rOf (rCallN 2 f_is_right (rCons (rVar 5) (rCons (rVar 4) rNil))))) (rNot (rOf (rCallN 2 f__law_same (rCons (rCallN 2 f_undone_vault (rCons (rVar 5) (rCons (rVar 4) rNil))) (rCons (rVar 5) rNil)))))) (wRet (rK (.bool false))) wNext) (wSeq (wIf (rNot (rOf (rCallN 2 f__law_same (rCons (rLst (rCons (rCall phLen (rCons (rCallN 1 f_trimmed (rCons (rVar 4) rNil)) rNil)) (rCons (rCallN 1 f_trimmed (rCons (rCallN 1 f_trimmed (rCons (rVar 4) rNil)) rNil)) rNil))) (rCons (rLst (rCons (rCallN 1 f_fewest_locks (rCons (rVar 5) rNil)) (rCons (rCallN 1 f_trimmed (rCons (rVar 4) rNil)) rNil))) rNil))))) (wRet (rK (.bool false))) wNext) (wSeq (wSet 6 (rLst (rCons (rCallN 2 f_is_right (rCons (rCallN 2 f_lost (rCons (rVar 0) (rCons (rVar 2) rNil))) (rCons (rCallN 3 f__law_kept (rCons (rVar 1) (rCons (rVar 2) (rCons (rTup rNil) rNil)))) rNil))) (rCons (rCallN 2 f_is_right (rCons (rCallN 2 f_left_in (rCons (rVar 0) (rCons (rVar 3) rNil))) (rCons (rCallN 3 f__law_kept (rCons (rVar 1) (rCons (rTup rNil) (rCons (rVar 3) rNil)))) rNil))) rNil)))) (wRet (rCallN 2 f__law_same (rCons (rVar 6) (rCons (rLst (rCons (rK (.bool true)) (rCons (rK (.bool true)) rNil))) rNil))))))))
theorem body__law_loss_right {f_behind f__law_kept f_is_right f__law_same f_undone_vault f_trimmed f_fewest_locks f_left_in f_lost : Phi} (B : Bl mg) (d_behind : PDef P w K mg base T "behind" 15 2 f_behind) (d__law_kept : PDef P w K mg base T "_law_kept" 1 3 f__law_kept) (d_is_right : PDef P w K mg base T "is_right" 15 2 f_is_right) (d__law_same : PDef P w K mg base T "_law_same" 14 2 f__law_same) (d_undone_vault : PDef P w K mg base T "undone_vault" 13 2 f_undone_vault) (d_trimmed : PDef P w K mg base T "trimmed" 13 1 f_trimmed) (d_fewest_locks : PDef P w K mg base T "fewest_locks" 14 1 f_fewest_locks) (d_left_in : PDef P w K mg base T "left_in" 14 2 f_left_in) (d_lost : PDef P w K mg base T "lost" 14 2 f_lost) : Body P w K mg base T ["_law_vault_so", "_law_hanging_so", "_law_gone_so", "_law_stays_so", "_law_later_so", "_law_rest", "_law_got"] "_law_loss_right" s_law_loss_right 15 (w__law_loss_right f_behind f__law_kept f_is_right f__law_same f_undone_vault f_trimmed f_fewest_locks f_left_in f_lost) := by
  intro f cdv A outer s H E hr
  exact (dss_cons (ds_par2 (ps_par rfl sc__law_loss_right.nd rfl rfl (by decide) rfl rfl (dc_d (de_callD d__law_kept hr (by decide) (by rfl) (da_cons (de_var (pv 1)) (da_cons (de_var (pv 2)) (da_cons (de_var (pv 3)) da_nil)))) (dc_d (de_callD d_behind hr (by decide) (by rfl) (da_cons (de_var (pv 0)) (da_cons (de_tup (da_cons (de_var (pv 2)) (da_cons (de_var (pv 3)) da_nil))) da_nil))) dc_nil)) (by rfl))) (dss_cons (ds_if (dw_pt (dw_or (dt_not (dt_val (de_callD d_is_right hr (by decide) (by rfl) (da_cons (de_var (pv 5)) (da_cons (de_var (pv 4)) da_nil))))) (dw_or1 (dt_not (dt_val (de_callD d__law_same hr (by decide) (by rfl) (da_cons (de_callD d_undone_vault hr (by decide) (by rfl) (da_cons (de_var (pv 5)) (da_cons (de_var (pv 4)) da_nil))) (da_cons (de_var (pv 5)) da_nil)))))))) (dss_one (ds_ret de_bl)) dss_nil) (dss_cons (ds_if (dt_not (dt_val (de_callD d__law_same hr (by decide) (by rfl) (da_cons (de_lst (da_cons (de_callB cd_len (by rfl) B.len_ rfl (da_cons (de_callD d_trimmed hr (by decide) (by rfl) (da_cons (de_var (pv 4)) da_nil)) da_nil)) (da_cons (de_callD d_trimmed hr (by decide) (by rfl) (da_cons (de_callD d_trimmed hr (by decide) (by rfl) (da_cons (de_var (pv 4)) da_nil)) da_nil)) da_nil))) (da_cons (de_lst (da_cons (de_callD d_fewest_locks hr (by decide) (by rfl) (da_cons (de_var (pv 5)) da_nil)) (da_cons (de_callD d_trimmed hr (by decide) (by rfl) (da_cons (de_var (pv 4)) da_nil)) da_nil))) da_nil))))) (dss_one (ds_ret de_bl)) dss_nil) (dss_cons (ds_set (i := 6) sc__law_loss_right.nd rfl (by first | exact .inl rfl | exact .inr rfl) (de_lst (da_cons (de_callD d_is_right hr (by decide) (by rfl) (da_cons (de_callD d_lost hr (by decide) (by rfl) (da_cons (de_var (pv 0)) (da_cons (de_var (pv 2)) da_nil))) (da_cons (de_callD d__law_kept hr (by decide) (by rfl) (da_cons (de_var (pv 1)) (da_cons (de_var (pv 2)) (da_cons (de_tup da_nil) da_nil)))) da_nil))) (da_cons (de_callD d_is_right hr (by decide) (by rfl) (da_cons (de_callD d_left_in hr (by decide) (by rfl) (da_cons (de_var (pv 0)) (da_cons (de_var (pv 3)) da_nil))) (da_cons (de_callD d__law_kept hr (by decide) (by rfl) (da_cons (de_var (pv 1)) (da_cons (de_tup da_nil) (da_cons (de_var (pv 3)) da_nil)))) da_nil))) da_nil)))) (dss_one (ds_ret (de_callD d__law_same hr (by decide) (by rfl) (da_cons (de_var (pv 6)) (da_cons (de_lst (da_cons de_bl (da_cons de_bl da_nil))) da_nil)))))))))
/-! ### _law_house_right (rank 16); slots 0:_law_vault_so 1:_law_tag 2:_law_inner_so 3:_law_found 4:_law_whole_so 5:_law_own 6:_law_hanging_so 7:_law_far 8:_law_bit -/
theorem sc__law_house_right : FnScope ["_law_vault_so", "_law_tag", "_law_inner_so", "_law_found", "_law_whole_so", "_law_own", "_law_hanging_so", "_law_far", "_law_bit"] ["_law_vault_so", "_law_tag", "_law_inner_so"] (defScope s_law_house_right) := ⟨rfl, rfl, rfl, by decide +kernel, rfl, by decide +kernel, by decide +kernel⟩
theorem bd__law_house_right : BindsSt s_law_house_right "_law_house_right" ["_law_vault_so", "_law_tag", "_law_inner_so"] := fun _ _ _ _ _ _ us hl => match us, hl with | [_, _, _], _ => rfl
def w__law_house_right (f_put_in f_barriers f__law_locks f_is_right f__law_same f_trimmed : Phi) : W2 := (wSeq (wPar [3, 4] (rcO (fun ρ ds => rNil ρ ds ∧ ds.length ≤ 1000000) (rcD (rCallN 3 f_put_in (rCons (rVar 0) (rCons (rVar 1) (rCons (rVar 2) rNil)))) rcNil))) (wSeq (wFor (.nm 5) (rSeq (rCallN 1 f_barriers (rCons (rVar 0) rNil))) (wIf (rOf (rBin (phIn false) (rVar 1) (rVar 5))) (wCat 3 (rLst' (rLc [7] (rSeq (rCallN 1 f_barriers (rCons (rVar 2) rNil))) (.nm 7) rYes (rCall phTuple (rCons (rCall phSorted (rCons (rBin phAddL (rLst' (rLc [8] (rSeq (rVar 5)) (.nm 8) (rOf (rBin phNe (rVar 8) (rVar 1))) (rVar 8))) (rCall phList (rCons (rVar 7) rNil))) rNil)) rNil))))) (wApp 3 (rVar 5)))) (wFrz (wSeq (wSet 6 (rCallN 1 f__law_locks (rCons (rVar 3) rNil))) (wRet (rAndV (rCallN 2 f_is_right (rCons (rVar 4) (rCons (rVar 6) rNil))) (rCallN 2 f__law_same (rCons (rCall phSorted (rCons (rLst' (rLc [5] (rSeq (rCallN 1 f_trimmed (rCons (rVar 6) rNil))) (.nm 5) rYes (rBin phIx (rVar 5) (rK (.int 1))))) rNil)) (rCons (rCall phList (rCons (rCallN 1 f_barriers (rCons (rVar 4) rNil)) rNil)) rNil)))))))))
theorem body__law_house_right {f_put_in f_barriers f__law_locks f_is_right f__law_same f_trimmed : Phi} (B : Bl mg) (d_put_in : PDef P w K mg base T "put_in" 15 3 f_put_in) (d_barriers : PDef P w K mg base T "barriers" 13 1 f_barriers) (d__law_locks : PDef P w K mg base T "_law_locks" 1 1 f__law_locks) (d_is_right : PDef P w K mg base T "is_right" 15 2 f_is_right) (d__law_same : PDef P w K mg base T "_law_same" 14 2 f__law_same) (d_trimmed : PDef P w K mg base T "trimmed" 13 1 f_trimmed) : Body P w K mg base T ["_law_vault_so", "_law_tag", "_law_inner_so", "_law_found", "_law_whole_so", "_law_own", "_law_hanging_so", "_law_far", "_law_bit"] "_law_house_right" s_law_house_right 15 (w__law_house_right f_put_in f_barriers f__law_locks f_is_right f__law_same f_trimmed) := by
  intro f cdv A outer s H E hr
  exact (dss_cons (ds_par2 (ps_par rfl sc__law_house_right.nd rfl rfl (by decide) rfl rfl (dc_o (df_lst da_nil) (dc_d (de_callD d_put_in hr (by decide) (by rfl) (da_cons (de_var (pv 0)) (da_cons (de_var (pv 1)) (da_cons (de_var (pv 2)) da_nil)))) dc_nil)) (by rfl))) (dss_cons (ds_for PassesOwn.never rfl (di_seq (de_callD d_barriers hr (by decide) (by rfl) (da_cons (de_var (pv 0)) da_nil))) (pg_name (i := 5) sc__law_house_right.nd rfl (by first | exact .inl rfl | exact .inr rfl)) (dss_one (ds_if (dt_cmp (od_in (hu65 hr)) (de_var (pv 1)) (de_var (pv 5)) (by rfl)) (dss_one (ps_catI (i := 3) sc__law_house_right.nd rfl (by first | exact .inl rfl | exact .inr rfl) (pv 3) (de_lc rfl sc__law_house_right.nd (di_seq (de_callD d_barriers hr (by decide) (by rfl) (da_cons (de_var (pv 2)) da_nil))) (own := [("_law_far", 7)]) (blkOk_by (by kernel_rfl)) (b := (.nm 7)) (by decide) (fun _ _ _ _ _ => (pg_name (i := 7) sc__law_house_right.nd rfl (by first | exact .inl rfl | exact .inr rfl))) (fun _ _ _ _ _ => dts_nil) (fun _ _ _ _ _ => (de_callTy cd_tuple (by rfl) B.tuple_ rfl (da_cons (de_callB (cd_sorted (hu64 hr)) (by rfl) B.sorted_ rfl (da_cons (de_bin od_addL (de_lc rfl sc__law_house_right.nd (di_seq (de_var (pv 5))) (own := [("_law_bit", 8)]) (blkOk_by (by kernel_rfl)) (b := (.nm 8)) (by decide) (fun _ _ _ _ _ => (pg_name (i := 8) sc__law_house_right.nd rfl (by first | exact .inl rfl | exact .inr rfl))) (fun _ _ _ _ _ => (dts_one (dt_cmp (od_ne (hu64 hr)) (de_var (pv 8)) (de_var (pv 1)) (by rfl)))) (fun _ _ _ _ _ => (de_var (pv 8)))) (de_callTy cd_list (by rfl) B.list_ rfl (da_cons (de_var (pv 7)) da_nil))) da_nil)) da_nil)))))) (dss_one (ds_append (i := 3) (pv 3) (de_var (pv 5))))))) (dss_frz (dss_cons (ds_set (i := 6) sc__law_house_right.nd rfl (by first | exact .inl rfl | exact .inr rfl) (de_callD d__law_locks hr (by decide) (by rfl) (da_cons (de_var (pv 3)) da_nil))) (dss_one (ds_ret (de_and (de_callD d_is_right hr (by decide) (by rfl) (da_cons (de_var (pv 4)) (da_cons (de_var (pv 6)) da_nil))) (de_one (de_callD d__law_same hr (by decide) (by rfl) (da_cons (de_callB (cd_sorted (hu64 hr)) (by rfl) B.sorted_ rfl (da_cons (de_lc rfl sc__law_house_right.nd (di_seq (de_callD d_trimmed hr (by decide) (by rfl) (da_cons (de_var (pv 6)) da_nil))) (own := [("_law_own", 5)]) (blkOk_by (by kernel_rfl)) (b := (.nm 5)) (by decide) (fun _ _ _ _ _ => (pg_name (i := 5) sc__law_house_right.nd rfl (by first | exact .inl rfl | exact .inr rfl))) (fun _ _ _ _ _ => dts_nil) (fun _ _ _ _ _ => (de_ix (de_var (pv 5)) de_int (fun _ _ => rfl)))) da_nil)) (da_cons (de_callTy cd_list (by rfl) B.list_ rfl (da_cons (de_callD d_barriers hr (by decide) (by rfl) (da_cons (de_var (pv 4)) da_nil)) da_nil)) da_nil)))))))))))
/-! ### _law_people_right (rank 15); slots 0:_law_vault_so 1:_law_holders_so 2:_law_table 3:_law_found 4:_law_own 5:_law_folk_so 6:_law_tag -/
theorem sc__law_people_right : FnScope ["_law_vault_so", "_law_holders_so", "_law_table", "_law_found", "_law_own", "_law_folk_so", "_law_tag"] ["_law_vault_so", "_law_holders_so"] (defScope s_law_people_right) := ⟨rfl, rfl, rfl, by decide +kernel, rfl, by decide +kernel, by decide +kernel⟩
theorem bd__law_people_right : BindsSt s_law_people_right "_law_people_right" ["_law_vault_so", "_law_holders_so"] := fun _ _ _ _ _ _ us hl => match us, hl with | [_, _], _ => rfl
def w__law_people_right (f_barriers f_peoples_vault f__law_same f_undone_vault f__law_locks : Phi) : W2 := (wSeq (wPar [2, 3] (rcD (rDict (rLz (rBin phIx (rVar 0) (rK (.int 0))) (rVar 1))) (rcO (fun ρ ds => rNil ρ ds ∧ ds.length ≤ 1000000) rcNil))) (wSeq (wFor (.nm 4) (rSeq (rCallN 1 f_barriers (rCons (rVar 0) rNil))) (wApp 3 (rCall phTuple (rCons (rSset (rLst' (rLc [6] (rSeq (rVar 4)) (.nm 6) rYes (rBin phGet (rVar 2) (rVar 6))))) rNil)))) (wSeq (wSet 5 (rCallN 2 f_peoples_vault (rCons (rVar 0) (rCons (rVar 1) rNil)))) (wRet (rCallN 2 f__law_same (rCons (rCallN 2 f_undone_vault (rCons (rVar 5) (rCons (rCallN 1 f__law_locks (rCons (rVar 3) rNil)) rNil))) (rCons (rVar 5) rNil)))))))
theorem body__law_people_right {f_barriers f_peoples_vault f__law_same f_undone_vault f__law_locks : Phi} (B : Bl mg) (d_barriers : PDef P w K mg base T "barriers" 13 1 f_barriers) (d_peoples_vault : PDef P w K mg base T "peoples_vault" 14 2 f_peoples_vault) (d__law_same : PDef P w K mg base T "_law_same" 14 2 f__law_same) (d_undone_vault : PDef P w K mg base T "undone_vault" 13 2 f_undone_vault) (d__law_locks : PDef P w K mg base T "_law_locks" 1 1 f__law_locks) : Body P w K mg base T ["_law_vault_so", "_law_holders_so", "_law_table", "_law_found", "_law_own", "_law_folk_so", "_law_tag"] "_law_people_right" s_law_people_right 14 (w__law_people_right f_barriers f_peoples_vault f__law_same f_undone_vault f__law_locks) := by
  intro f cdv A outer s H E hr
  exact (dss_cons (ds_parT (dc_d (de_dictL rfl (by rfl) B.dict_ rfl (de_listZip rfl (by rfl) B.list_ (by rfl) B.zip_ (de_ix (de_var (pv 0)) de_int (fun _ _ => rfl)) (de_var (pv 1)))) (dc_o (df_lst da_nil) dc_nil)) (by decide) (pg_tup rfl (pgs_cons (pg_name (i := 2) sc__law_people_right.nd rfl (by first | exact .inl rfl | exact .inr rfl)) (pgs_cons (pg_name (i := 3) sc__law_people_right.nd rfl (by first | exact .inl rfl | exact .inr rfl)) pgs_nil)))) (dss_cons (ds_for PassesOwn.never rfl (di_seq (de_callD d_barriers hr (by decide) (by rfl) (da_cons (de_var (pv 0)) da_nil))) (pg_name (i := 4) sc__law_people_right.nd rfl (by first | exact .inl rfl | exact .inr rfl)) (dss_one (ds_append (i := 3) (pv 3) (de_callTy cd_tuple (by rfl) B.tuple_ rfl (da_cons (de_sset rfl (hu64 hr) (by rfl) B.sorted_ (by rfl) B.set_ (de_lc rfl sc__law_people_right.nd (di_seq (de_var (pv 4))) (own := [("_law_tag", 6)]) (blkOk_by (by kernel_rfl)) (b := (.nm 6)) (by decide) (fun _ _ _ _ _ => (pg_name (i := 6) sc__law_people_right.nd rfl (by first | exact .inl rfl | exact .inr rfl))) (fun _ _ _ _ _ => dts_nil) (fun _ _ _ _ _ => (de_get (hu1 hr) (de_var (pv 2)) (de_var (pv 6)) (fun _ _ => rfl))))) da_nil))))) (dss_cons (ds_set (i := 5) sc__law_people_right.nd rfl (by first | exact .inl rfl | exact .inr rfl) (de_callD d_peoples_vault hr (by decide) (by rfl) (da_cons (de_var (pv 0)) (da_cons (de_var (pv 1)) da_nil)))) (dss_one (ds_ret (de_callD d__law_same hr (by decide) (by rfl) (da_cons (de_callD d_undone_vault hr (by decide) (by rfl) (da_cons (de_var (pv 5)) (da_cons (de_callD d__law_locks hr (by decide) (by rfl) (da_cons (de_var (pv 3)) da_nil)) da_nil))) (da_cons (de_var (pv 5)) da_nil))))))))
/-! ### _law_lots_right (rank 15); slots 0:_law_vault_so 1:_law_bars_so 2:_law_found 3:_law_lot 4:_law_rows 5:_law_fine 6:_law_one 7:_law_two_here 8:_law_some 9:_law_tag 10:_law_own -/
theorem sc__law_lots_right : FnScope ["_law_vault_so", "_law_bars_so", "_law_found", "_law_lot", "_law_rows", "_law_fine", "_law_one", "_law_two_here", "_law_some", "_law_tag", "_law_own"] ["_law_vault_so"] (defScope s_law_lots_right) := ⟨rfl, rfl, rfl, by decide +kernel, rfl, by decide +kernel, by decide +kernel⟩
theorem bd__law_lots_right : BindsSt s_law_lots_right "_law_lots_right" ["_law_vault_so"] := fun _ _ _ _ _ _ us hl => match us, hl with | [_], _ => rfl
def w__law_lots_right (f_barriers f__law_subs f__law_idle f__law_opens f__law_same f_committees : Phi) : W2 := (wSeq (wPar [1, 2] (rcD (rCallN 1 f_barriers (rCons (rVar 0) rNil)) (rcD (rLst rNil) rcNil))) (wSeq (wFor (.nm 3) (rSeq (rCallN 1 f__law_subs (rCons (rLst' (rLc [9] (rSeq (rBin phIx (rVar 0) (rK (.int 0)))) (.nm 9) (rOf (rBin (phIn true) (rVar 9) (rCallN 1 f__law_idle (rCons (rVar 0) rNil)))) (rVar 9))) rNil))) (wSeq (wPar [4, 5] (rcD (rLst' (rLc [10] (rSeq (rVar 1)) (.nm 10) (rOf (rBin phNe (rLst' (rLc [9] (rSeq (rVar 10)) (.nm 9) (rOf (rBin (phIn false) (rVar 9) (rVar 3))) (rVar 9))) (rLst rNil))) (rVar 10))) (rcD (rBin phNe (rVar 3) (rTup rNil)) rcNil))) (wSeq (wFor (.nm 6) (rSeq (rVar 4)) (wFor (.nm 7) (rSeq (rVar 4)) (wSeq (wSet 8 (rBin phAddL (rLst' (rLc [9] (rSeq (rVar 6)) (.nm 9) (rOf (rBin (phIn true) (rVar 9) (rVar 3))) (rVar 9))) (rLst' (rLc [9] (rSeq (rVar 7)) (.nm 9) (rOf (rBin (phIn false) (rVar 9) (rVar 3))) (rVar 9))))) (wSet 5 (rAndV (rVar 5) (rCallN 2 f__law_opens (rCons (rTup (rCons (rBin phIx (rVar 0) (rK (.int 0))) (rCons (rVar 1) rNil))) (rCons (rVar 8) rNil)))))))) (wSet 2 (rBin phAddL (rVar 2) (rBin phMulL (rLst (rCons (rVar 3) rNil)) (rCall phInt (rCons (rVar 5) rNil)))))))) (wRet (rCallN 2 f__law_same (rCons (rCallN 1 f_committees (rCons (rVar 0) rNil)) (rCons (rCall phSorted (rCons (rVar 2) rNil)) rNil))))))
theorem body__law_lots_right {f_barriers f__law_subs f__law_idle f__law_opens f__law_same f_committees : Phi} (B : Bl mg) (d_barriers : PDef P w K mg base T "barriers" 13 1 f_barriers) (d__law_subs : PDef P w K mg base T "_law_subs" 1 1 f__law_subs) (d__law_idle : PDef P w K mg base T "_law_idle" 1 1 f__law_idle) (d__law_opens : PDef P w K mg base T "_law_opens" 2 2 f__law_opens) (d__law_same : PDef P w K mg base T "_law_same" 14 2 f__law_same) (d_committees : PDef P w K mg base T "committees" 14 1 f_committees) : Body P w K mg base T ["_law_vault_so", "_law_bars_so", "_law_found", "_law_lot", "_law_rows", "_law_fine", "_law_one", "_law_two_here", "_law_some", "_law_tag", "_law_own"] "_law_lots_right" s_law_lots_right 14 (w__law_lots_right f_barriers f__law_subs f__law_idle f__law_opens f__law_same f_committees) := by
  intro f cdv A outer s H E hr
  exact (dss_cons (ds_par2 (ps_par rfl sc__law_lots_right.nd rfl rfl (by decide) rfl rfl (dc_d (de_callD d_barriers hr (by decide) (by rfl) (da_cons (de_var (pv 0)) da_nil)) (dc_d (de_lst da_nil) dc_nil)) (by rfl))) (dss_cons (ds_for PassesOwn.never rfl (di_seq (de_callD d__law_subs hr (by decide) (by rfl) (da_cons (de_lc rfl sc__law_lots_right.nd (di_seq (de_ix (de_var (pv 0)) de_int (fun _ _ => rfl))) (own := [("_law_tag", 9)]) (blkOk_by (by kernel_rfl)) (b := (.nm 9)) (by decide) (fun _ _ _ _ _ => (pg_name (i := 9) sc__law_lots_right.nd rfl (by first | exact .inl rfl | exact .inr rfl))) (fun _ _ _ _ _ => (dts_one (dt_cmp (od_notIn (hu65 hr)) (de_var (pv 9)) (de_callD d__law_idle hr (by decide) (by rfl) (da_cons (de_var (pv 0)) da_nil)) (by rfl)))) (fun _ _ _ _ _ => (de_var (pv 9)))) da_nil))) (pg_name (i := 3) sc__law_lots_right.nd rfl (by first | exact .inl rfl | exact .inr rfl)) (dss_cons (ds_par2 (ps_par rfl sc__law_lots_right.nd rfl rfl (by decide) rfl rfl (dc_d (de_lc rfl sc__law_lots_right.nd (di_seq (de_var (pv 1))) (own := [("_law_own", 10)]) (blkOk_by (by kernel_rfl)) (b := (.nm 10)) (by decide) (fun _ _ _ _ _ => (pg_name (i := 10) sc__law_lots_right.nd rfl (by first | exact .inl rfl | exact .inr rfl))) (fun _ _ _ _ _ => (dts_one (dt_cmp (od_ne (hu64 hr)) (de_lc rfl sc__law_lots_right.nd (di_seq (de_var (pv 10))) (own := [("_law_tag", 9)]) (blkOk_by (by kernel_rfl)) (b := (.nm 9)) (by decide) (fun _ _ _ _ _ => (pg_name (i := 9) sc__law_lots_right.nd rfl (by first | exact .inl rfl | exact .inr rfl))) (fun _ _ _ _ _ => (dts_one (dt_cmp (od_in (hu65 hr)) (de_var (pv 9)) (de_var (pv 3)) (by rfl)))) (fun _ _ _ _ _ => (de_var (pv 9)))) (de_lst da_nil) (by rfl)))) (fun _ _ _ _ _ => (de_var (pv 10)))) (dc_d (de_cmp (od_ne (hu64 hr)) (de_var (pv 3)) (de_tup da_nil) (by rfl)) dc_nil)) (by rfl))) (dss_cons (ds_for PassesOwn.never rfl (di_seq (de_var (pv 4))) (pg_name (i := 6) sc__law_lots_right.nd rfl (by first | exact .inl rfl | exact .inr rfl)) (dss_one (ds_for PassesOwn.never rfl (di_seq (de_var (pv 4))) (pg_name (i := 7) sc__law_lots_right.nd rfl (by first | exact .inl rfl | exact .inr rfl)) (dss_cons (ds_set (i := 8) sc__law_lots_right.nd rfl (by first | exact .inl rfl | exact .inr rfl) (de_bin od_addL (de_lc rfl sc__law_lots_right.nd (di_seq (de_var (pv 6))) (own := [("_law_tag", 9)]) (blkOk_by (by kernel_rfl)) (b := (.nm 9)) (by decide) (fun _ _ _ _ _ => (pg_name (i := 9) sc__law_lots_right.nd rfl (by first | exact .inl rfl | exact .inr rfl))) (fun _ _ _ _ _ => (dts_one (dt_cmp (od_notIn (hu65 hr)) (de_var (pv 9)) (de_var (pv 3)) (by rfl)))) (fun _ _ _ _ _ => (de_var (pv 9)))) (de_lc rfl sc__law_lots_right.nd (di_seq (de_var (pv 7))) (own := [("_law_tag", 9)]) (blkOk_by (by kernel_rfl)) (b := (.nm 9)) (by decide) (fun _ _ _ _ _ => (pg_name (i := 9) sc__law_lots_right.nd rfl (by first | exact .inl rfl | exact .inr rfl))) (fun _ _ _ _ _ => (dts_one (dt_cmp (od_in (hu65 hr)) (de_var (pv 9)) (de_var (pv 3)) (by rfl)))) (fun _ _ _ _ _ => (de_var (pv 9)))))) (dss_one (ds_set (i := 5) sc__law_lots_right.nd rfl (by first | exact .inl rfl | exact .inr rfl) (de_and (de_var (pv 5)) (de_one (de_callD d__law_opens hr (by decide) (by rfl) (da_cons (de_tup (da_cons (de_ix (de_var (pv 0)) de_int (fun _ _ => rfl)) (da_cons (de_var (pv 1)) da_nil))) (da_cons (de_var (pv 8)) da_nil))))))))))) (dss_one (ds_set (i := 2) sc__law_lots_right.nd rfl (by first | exact .inl rfl | exact .inr rfl) (de_bin od_addL (de_var (pv 2)) (de_bin od_mulL (de_lst (da_cons (de_var (pv 3)) da_nil)) (de_callTy cd_int (by rfl) B.int_ rfl (da_cons (de_var (pv 5)) da_nil))))))))) (dss_one (ds_ret (de_callD d__law_same hr (by decide) (by rfl) (da_cons (de_callD d_committees hr (by decide) (by rfl) (da_cons (de_var (pv 0)) da_nil)) (da_cons (de_callB (cd_sorted (hu64 hr)) (by rfl) B.sorted_ rfl (da_cons (de_var (pv 2)) da_nil)) da_nil)))))))
/-! ### _law_by_hand_right (rank 17); slots 0:_law_three_here 1:_law_six_here 2:_law_lean_so 3:_law_got 4:_law_due -/
theorem sc__law_by_hand_right : FnScope ["_law_three_here", "_law_six_here", "_law_lean_so", "_law_got", "_law_due"] [] (defScope s_law_by_hand_right) := ⟨rfl, rfl, rfl, by decide +kernel, rfl, by decide +kernel, by decide +kernel⟩
theorem bd__law_by_hand_right : BindsSt s_law_by_hand_right "_law_by_hand_right" [] := fun _ _ _ _ _ _ us hl => match us, hl with | [], _ => rfl
def w__law_by_hand_right (f__law_six f__law_three f_hung f_behind f__law_kept f__law_same f__law_people_right f__law_loss_right f__law_house_right f__law_locks f_barriers f__law_lots_right f__law_two : Phi) : W2 := (wSeq (wPar [0, 1] (rcD (rCall0 f__law_three) (rcD (rCall0 f__law_six) rcNil))) (wSeq (wSet 2 (rCallN 2 f_hung (rCons (rVar 0) (rCons (rTup (rCons (rK (.str "p")) (rCons (rK (.str "q")) (rCons (rK (.str "r")) rNil)))) rNil)))) (wSeq (wSet 3 (rLst (rCons (rCallN 3 f__law_kept (rCons (rVar 2) (rCons (rTup (rCons (rK (.str "a")) rNil)) (rCons (rTup rNil) rNil)))) (rCons (rCallN 2 f_behind (rCons (rVar 0) (rCons (rTup (rCons (rTup (rCons (rK (.str "a")) rNil)) (rCons (rTup rNil) rNil))) rNil))) (rCons (rCallN 3 f__law_kept (rCons (rVar 2) (rCons (rTup rNil) (rCons (rTup (rCons (rK (.str "a")) rNil)) rNil)))) (rCons (rCallN 2 f_behind (rCons (rVar 0) (rCons (rTup (rCons (rTup rNil) (rCons (rTup (rCons (rK (.str "a")) rNil)) rNil))) rNil))) rNil)))))) (wSeq (wSet 4 (rLst (rCons (rTup (rCons (rTup (rCons (rK (.str "p")) (rCons (rTup (rCons (rK (.str "b")) rNil)) rNil))) (rCons (rTup (rCons (rK (.str "q")) (rCons (rTup (rCons (rK (.str "c")) rNil)) rNil))) (rCons (rTup (rCons (rK (.str "r")) (rCons (rTup (rCons (rK (.str "b")) (rCons (rK (.str "c")) rNil))) rNil))) rNil)))) (rCons (rTup (rCons (rTup (rCons (rK (.str "b")) (rCons (rK (.str "c")) rNil))) (rCons (rTup (rCons (rTup (rCons (rK (.str "b")) (rCons (rK (.str "c")) rNil))) rNil)) rNil))) (rCons (rTup (rCons (rTup (rCons (rK (.str "r")) (rCons (rTup (rCons (rK (.str "b")) (rCons (rK (.str "c")) rNil))) rNil))) rNil)) (rCons (rTup (rCons (rTup (rCons (rK (.str "b")) (rCons (rK (.str "c")) rNil))) (rCons (rTup (rCons (rTup (rCons (rK (.str "b")) rNil)) (rCons (rTup (rCons (rK (.str "c")) rNil)) rNil))) rNil))) rNil)))))) (wSeq (wIf (rOr (rNot (rOf (rCallN 2 f__law_same (rCons (rVar 3) (rCons (rVar 4) rNil))))) (rOr (rNot (rOf (rCallN 2 f__law_people_right (rCons (rVar 0) (rCons (rTup (rCons (rK (.str "zoe")) (rCons (rK (.str "ann")) (rCons (rK (.str "zoe")) rNil)))) rNil))))) (rNot (rOf (rCallN 4 f__law_loss_right (rCons (rVar 0) (rCons (rVar 2) (rCons (rTup (rCons (rK (.str "c")) rNil)) (rCons (rTup (rCons (rK (.str "a")) rNil)) rNil))))))))) (wRet (rK (.bool false))) wNext) (wSeq (wIf (rOr (rNot (rOf (rCallN 3 f__law_house_right (rCons (rVar 0) (rCons (rK (.str "b")) (rCons (rTup (rCons (rTup (rCons (rK (.str "k")) (rCons (rK (.str "l")) rNil))) (rCons (rTup (rCons (rTup (rCons (rK (.str "k")) rNil)) (rCons (rTup (rCons (rK (.str "l")) rNil)) rNil))) rNil))) rNil)))))) (rNot (rOf (rCallN 4 f__law_loss_right (rCons (rVar 1) (rCons (rCallN 1 f__law_locks (rCons (rCallN 1 f_barriers (rCons (rVar 1) rNil)) rNil)) (rCons (rTup (rCons (rK (.str "a")) (rCons (rK (.str "g")) rNil))) (rCons (rTup (rCons (rK (.str "c")) rNil)) rNil)))))))) (wRet (rK (.bool false))) wNext) (wRet (rAndV (rCallN 1 f__law_lots_right (rCons (rVar 0) rNil)) (rCallN 1 f__law_lots_right (rCons (rCall0 f__law_two) rNil))))))))))
theorem body__law_by_hand_right {f__law_six f__law_three f_hung f_behind f__law_kept f__law_same f__law_people_right f__law_loss_right f__law_house_right f__law_locks f_barriers f__law_lots_right f__law_two : Phi} (B : Bl mg) (d__law_six : PDef P w K mg base T "_law_six" 1 0 f__law_six) (d__law_three : PDef P w K mg base T "_law_three" 1 0 f__law_three) (d_hung : PDef P w K mg base T "hung" 15 2 f_hung) (d_behind : PDef P w K mg base T "behind" 15 2 f_behind) (d__law_kept : PDef P w K mg base T "_law_kept" 1 3 f__law_kept) (d__law_same : PDef P w K mg base T "_law_same" 14 2 f__law_same) (d__law_people_right : PDef P w K mg base T "_law_people_right" 15 2 f__law_people_right) (d__law_loss_right : PDef P w K mg base T "_law_loss_right" 16 4 f__law_loss_right) (d__law_house_right : PDef P w K mg base T "_law_house_right" 16 3 f__law_house_right) (d__law_locks : PDef P w K mg base T "_law_locks" 1 1 f__law_locks) (d_barriers : PDef P w K mg base T "barriers" 13 1 f_barriers) (d__law_lots_right : PDef P w K mg base T "_law_lots_right" 15 1 f__law_lots_right) (d__law_two : PDef P w K mg base T "_law_two" 1 0 f__law_two) : Body P w K mg base T ["_law_three_here", "_law_six_here", "_law_lean_so", "_law_got", "_law_due"] "_law_by_hand_right" s_law_by_hand_right 16 (w__law_by_hand_right f__law_six f__law_three f_hung f_behind f__law_kept f__law_same f__law_people_right f__law_loss_right f__law_house_right f__law_locks f_barriers f__law_lots_right f__law_two) := by
  intro f cdv A outer s H E hr
  exact (dss_cons (ds_par2 (ps_par rfl sc__law_by_hand_right.nd rfl rfl (by decide) rfl rfl (dc_d (de_call0 d__law_three hr (by decide) (by rfl)) (dc_d (de_call0 d__law_six hr (by decide) (by rfl)) dc_nil)) (by rfl))) (dss_cons (ds_set (i := 2) sc__law_by_hand_right.nd rfl (by first | exact .inl rfl | exact .inr rfl) (de_callD d_hung hr (by decide) (by rfl) (da_cons (de_var (pv 0)) (da_cons (de_tup (da_cons de_str (da_cons de_str (da_cons de_str da_nil)))) da_nil)))) (dss_cons (ds_set (i := 3) sc__law_by_hand_right.nd rfl (by first | exact .inl rfl | exact .inr rfl) (de_lst (da_cons (de_callD d__law_kept hr (by decide) (by rfl) (da_cons (de_var (pv 2)) (da_cons (de_tup (da_cons de_str da_nil)) (da_cons (de_tup da_nil) da_nil)))) (da_cons (de_callD d_behind hr (by decide) (by rfl) (da_cons (de_var (pv 0)) (da_cons (de_tup (da_cons (de_tup (da_cons de_str da_nil)) (da_cons (de_tup da_nil) da_nil))) da_nil))) (da_cons (de_callD d__law_kept hr (by decide) (by rfl) (da_cons (de_var (pv 2)) (da_cons (de_tup da_nil) (da_cons (de_tup (da_cons de_str da_nil)) da_nil)))) (da_cons (de_callD d_behind hr (by decide) (by rfl) (da_cons (de_var (pv 0)) (da_cons (de_tup (da_cons (de_tup da_nil) (da_cons (de_tup (da_cons de_str da_nil)) da_nil))) da_nil))) da_nil)))))) (dss_cons (ds_set (i := 4) sc__law_by_hand_right.nd rfl (by first | exact .inl rfl | exact .inr rfl) (de_lst (da_cons (de_tup (da_cons (de_tup (da_cons de_str (da_cons (de_tup (da_cons de_str da_nil)) da_nil))) (da_cons (de_tup (da_cons de_str (da_cons (de_tup (da_cons de_str da_nil)) da_nil))) (da_cons (de_tup (da_cons de_str (da_cons (de_tup (da_cons de_str (da_cons de_str da_nil))) da_nil))) da_nil)))) (da_cons (de_tup (da_cons (de_tup (da_cons de_str (da_cons de_str da_nil))) (da_cons (de_tup (da_cons (de_tup (da_cons de_str (da_cons de_str da_nil))) da_nil)) da_nil))) (da_cons (de_tup (da_cons (de_tup (da_cons de_str (da_cons (de_tup (da_cons de_str (da_cons de_str da_nil))) da_nil))) da_nil)) (da_cons (de_tup (da_cons (de_tup (da_cons de_str (da_cons de_str da_nil))) (da_cons (de_tup (da_cons (de_tup (da_cons de_str da_nil)) (da_cons (de_tup (da_cons de_str da_nil)) da_nil))) da_nil))) da_nil)))))) (dss_cons (ds_if (dw_pt (dw_or (dt_not (dt_val (de_callD d__law_same hr (by decide) (by rfl) (da_cons (de_var (pv 3)) (da_cons (de_var (pv 4)) da_nil))))) (dw_or (dt_not (dt_val (de_callD d__law_people_right hr (by decide) (by rfl) (da_cons (de_var (pv 0)) (da_cons (de_tup (da_cons de_str (da_cons de_str (da_cons de_str da_nil)))) da_nil))))) (dw_or1 (dt_not (dt_val (de_callD d__law_loss_right hr (by decide) (by rfl) (da_cons (de_var (pv 0)) (da_cons (de_var (pv 2)) (da_cons (de_tup (da_cons de_str da_nil)) (da_cons (de_tup (da_cons de_str da_nil)) da_nil))))))))))) (dss_one (ds_ret de_bl)) dss_nil) (dss_cons (ds_if (dw_pt (dw_or (dt_not (dt_val (de_callD d__law_house_right hr (by decide) (by rfl) (da_cons (de_var (pv 0)) (da_cons de_str (da_cons (de_tup (da_cons (de_tup (da_cons de_str (da_cons de_str da_nil))) (da_cons (de_tup (da_cons (de_tup (da_cons de_str da_nil)) (da_cons (de_tup (da_cons de_str da_nil)) da_nil))) da_nil))) da_nil)))))) (dw_or1 (dt_not (dt_val (de_callD d__law_loss_right hr (by decide) (by rfl) (da_cons (de_var (pv 1)) (da_cons (de_callD d__law_locks hr (by decide) (by rfl) (da_cons (de_callD d_barriers hr (by decide) (by rfl) (da_cons (de_var (pv 1)) da_nil)) da_nil)) (da_cons (de_tup (da_cons de_str (da_cons de_str da_nil))) (da_cons (de_tup (da_cons de_str da_nil)) da_nil)))))))))) (dss_one (ds_ret de_bl)) dss_nil) (dss_one (ds_ret (de_and (de_callD d__law_lots_right hr (by decide) (by rfl) (da_cons (de_var (pv 0)) da_nil)) (de_one (de_callD d__law_lots_right hr (by decide) (by rfl) (da_cons (de_call0 d__law_two hr (by decide) (by rfl)) da_nil))))))))))))
end
end Vk

/-! ## VkSem0 -/
set_option Elab.async false
set_option linter.all false
set_option maxRecDepth 100000
set_option maxHeartbeats 1000000
/-! Words to show that a reading gives a datum. -/
namespace Vk
open PySem PySem.Spec PyProof.Rows L2 LamX StX
/-! ### data -/
theorem fit_str (x : Str) : fit (.str x) = true := rfl
theorem fit_int (i : Int) : fit (.int i) = true := rfl
theorem fit_bool (b : Bool) : fit (.bool b) = true := rfl
theorem fit_none : fit .none = true := rfl
theorem fit_dS (k : KS) : fit (dS k) = true := by
  unfold fit
  rw [noDict_dS, Bool.and_true]
  have := depth_dS k
  exact decide_eq_true (by omega)
theorem noDict_strsL (l : KS) : noDict (.list (l.map .str)) = true := noDictAll_strs l
theorem noDictAll_dS : ∀ F : FM, noDict.noDictAll (F.map dS) = true
  | [] => rfl
  | k :: F => by
    rw [List.map_cons]
    show (noDict (dS k) && noDict.noDictAll (F.map dS)) = true
    rw [noDict_dS, noDictAll_dS F]; rfl
theorem depthAll_dS : ∀ F : FM, PyData.depthAll (F.map dS) ≤ 1
  | [] => by rw [List.map_nil, PyData.depthAll]; omega
  | k :: F => by
    rw [List.map_cons, PyData.depthAll]
    have := depth_dS k
    have := depthAll_dS F
    omega
theorem fit_lS (k : KS) : fit (lS k) = true := by
  unfold fit lS
  rw [show noDict (.list (k.map .str)) = true from noDictAll_strs k, Bool.and_true, PyData.depth, depthAll_strs]
  decide
theorem fit_lF (F : FM) : fit (lF F) = true := by
  unfold fit lF
  rw [show noDict (.list (F.map dS)) = true from noDictAll_dS F, Bool.and_true, PyData.depth]
  have := depthAll_dS F
  exact decide_eq_true (by omega)
theorem eqv_str (x y : Str) : PyData.eqv (.str x) (.str y) = decide (x = y) := by
  rw [PyData.eqv]
  by_cases h : x = y
  · simp [h]
  · simp [h]
theorem any_strs (ys : KS) (x : Str) : ((ys.map PyData.str).any fun y => PyData.eqv y (.str x)) = decide (x ∈ ys) := by
  rw [List.any_map]
  apply Bool.eq_iff_iff.mpr
  rw [List.any_eq_true, decide_eq_true_eq]
  constructor
  · rintro ⟨y, hy, e⟩
    have e' : PyData.eqv (.str y) (.str x) = true := e
    rw [eqv_str] at e'
    rw [← of_decide_eq_true e']; exact hy
  · intro h
    exact ⟨x, h, by show PyData.eqv (.str x) (.str x) = true; rw [eqv_str]; simp⟩
theorem any_dS (F : FM) (k : KS) : ((F.map dS).any fun y => PyData.eqv y (dS k)) = decide (k ∈ F) := by
  rw [List.any_map]
  apply Bool.eq_iff_iff.mpr
  rw [List.any_eq_true, decide_eq_true_eq]
  constructor
  · rintro ⟨y, hy, e⟩
    rw [← (eqv_dS y k).1 e]; exact hy
  · intro h
    exact ⟨k, h, (eqv_dS k k).2 rfl⟩
abbrev isS (d : PyData) (xs : KS) : Prop := seqOf d = some (xs.map PyData.str)
abbrev isF (d : PyData) (F : FM) : Prop := seqOf d = some (F.map dS)
theorem isS_dS (k : KS) : isS (dS k) k := rfl
theorem isS_lS (k : KS) : isS (lS k) k := rfl
theorem isF_dF (F : FM) : isF (dF F) F := rfl
theorem isF_lF (F : FM) : isF (lF F) F := rfl
theorem phIn_s {x : Str} {e : PyData} {ys : KS} (h : isS e ys) : phIn false (.str x) e (.bool (decide (x ∈ ys))) := ⟨_, h, rfl, noDict_strsL ys, by rw [any_strs]; rfl⟩
theorem phNotIn_s {x : Str} {e : PyData} {ys : KS} (h : isS e ys) : phIn true (.str x) e (.bool (!decide (x ∈ ys))) := ⟨_, h, rfl, noDict_strsL ys, by rw [any_strs]; rfl⟩
theorem phIn_f {k : KS} {e : PyData} {F : FM} (h : isF e F) : phIn false (dS k) e (.bool (decide (k ∈ F))) := ⟨_, h, fit_dS k, noDictAll_dS F, by rw [any_dS]; rfl⟩
theorem phNotIn_f {k : KS} {e : PyData} {F : FM} (h : isF e F) : phIn true (dS k) e (.bool (!decide (k ∈ F))) := ⟨_, h, fit_dS k, noDictAll_dS F, by rw [any_dS]; rfl⟩
/-! ### readings -/
section
variable {R R' : RE} {A : RA} {φ : Phi} {ρ : DEnv} {d : PyData} {ds : List PyData}
theorem iCall (h : A ρ ds) (p : φ ds d) : rCall φ A ρ d := ⟨ds, h, p⟩
theorem iCallN {n : Nat} (h : A ρ ds) (hn : ds.length = n) (p : φ ds d) : rCallN n φ A ρ d := ⟨ds, h, hn, p⟩
theorem iCons (h : R ρ d) (t : A ρ ds) : rCons R A ρ (d :: ds) := ⟨d, ds, h, t, rfl⟩
theorem iNil : rNil ρ [] := rfl
theorem iStar {xs : List PyData} (h : R ρ d) (e : seqOf d = some xs) (t : A ρ ds) : rStar R A ρ (xs ++ ds) := ⟨d, xs, ds, h, e, t, rfl⟩
theorem i1 (h : R ρ d) : rCons R rNil ρ [d] := iCons h iNil
theorem i2 {e : PyData} (h : R ρ d) (h' : R' ρ e) : rCons R (rCons R' rNil) ρ [d, e] := iCons h (i1 h')
theorem iLst' (h : A ρ ds) : rLst' A ρ (.list ds) := ⟨ds, h, rfl⟩
theorem iLst (h : A ρ ds) (hl : ds.length ≤ 1000000) : rLst A ρ (.list ds) := ⟨ds, h, hl, rfl⟩
theorem iTup (h : A ρ ds) (hl : ds.length ≤ 1000000) : rTup A ρ (.tuple ds) := ⟨ds, h, hl, rfl⟩
theorem iSeq {xs : List PyData} (h : R ρ d) (e : seqOf d = some xs) : rSeq R ρ xs := ⟨d, h, e⟩
theorem iLc {own : List Nat} {I : RA} {b : Bn} {C : RB} {ys : List PyData} (hI : I ρ ds) (run : LcRun b C R (wipeD ρ own) ds ys) : rLc own I b C R ρ ys := ⟨ds, hI, run⟩
theorem iIx {xs : List PyData} {i : Nat} {z : PyData} (h : R ρ d) (e : seqOf d = some xs) (g : xs[i]? = some z) : rBin phIx R (rK (.int i)) ρ z := ⟨d, _, h, rfl, xs, i, e, rfl, g⟩
theorem iIx0 {xs : List PyData} {z : PyData} (h : R ρ d) (e : seqOf d = some (z :: xs)) : rBin phIx R (rK (.int 0)) ρ z := iIx (i := 0) h e rfl
theorem iIx1 {xs : List PyData} {y z : PyData} (h : R ρ d) (e : seqOf d = some (y :: z :: xs)) : rBin phIx R (rK (.int 1)) ρ z := iIx (i := 1) h e rfl
theorem iBin {φ : Phi2} {e z : PyData} (h : R ρ d) (h' : R' ρ e) (p : φ d e z) : rBin φ R R' ρ z := ⟨d, e, h, h', p⟩
theorem iLen {xs : List PyData} (e : seqOf d = some xs) : phLen [d] (.int xs.length) := ⟨d, xs, rfl, e, rfl⟩
theorem iTuple {xs : List PyData} (e : seqOf d = some xs) : phTuple [d] (.tuple xs) := ⟨d, xs, rfl, e, rfl⟩
theorem iList {xs : List PyData} (e : seqOf d = some xs) : phList [d] (.list xs) := ⟨d, xs, rfl, e, rfl⟩
theorem iAny (bs : List Bool) : phAny [.list (bs.map .bool)] (.bool (bs.any id)) := ⟨bs, rfl, rfl⟩
theorem iAll (bs : List Bool) : phAll [.list (bs.map .bool)] (.bool (bs.all id)) := ⟨bs, rfl, rfl⟩
theorem iAnyM {α : Type} (p : α → Bool) (l : List α) : phAny [.list (l.map fun x => .bool (p x))] (.bool (l.any p)) := ⟨l.map p, by rw [List.map_map]; rfl, by rw [List.any_map]; rfl⟩
theorem iAllM {α : Type} (p : α → Bool) (l : List α) : phAll [.list (l.map fun x => .bool (p x))] (.bool (l.all p)) := ⟨l.map p, by rw [List.map_map]; rfl, by rw [List.all_map]; rfl⟩
end
section
variable {Nx : Ev → Prop} {ε : Ev} {d : PyData} {R : RE}
theorem iRet (h : R (opn ε) d) : wRet R Nx (fun y => y = d) ε := ⟨d, h, rfl⟩
end
/-! ### the orders of data -/
theorem iSortT (F : FM) : phSorted [lF F] (lF (isort tupLe F)) := ⟨F.map dS, rfl, allAlike_tups F, srt_tups F, fun d hd => by
  obtain ⟨k, _, rfl⟩ := List.mem_map.mp hd
  exact ⟨Nat.le_trans (depth_dS k) (by decide), noDict_dS k⟩, by rw [sortD_tups]; rfl⟩
theorem iSortS (l : KS) : phSorted [lS l] (lS (isort strLe l)) := ⟨l.map .str, rfl, allAlike_strs l, srt_strs l, fun d hd => by
  obtain ⟨k, _, rfl⟩ := List.mem_map.mp hd
  exact ⟨by show 0 ≤ 20; decide, rfl⟩, by rw [sortD_strs]; rfl⟩
end Vk

/-! ## VkSem1 -/
set_option Elab.async false
set_option linter.all false
set_option maxRecDepth 100000
set_option maxHeartbeats 1000000
/-! What the defs hand back, over data (1). -/
namespace Vk
open PySem PySem.Spec PyProof.Rows L2 LamX StX
/-! ### set_of -/
/-- few different sets -/
structure Few (F : FM) : Prop where
  len : F.length ≤ 100000
  keys : ∀ k ∈ F, k.length ≤ 1000
  few : ∃ U : FM, U.length ≤ 76 ∧ ∀ k ∈ F, k ∈ U
def ph_set_of : Phi := fun ds z => ∃ d, ds = [d] ∧ ((∃ l : KS, isS d l ∧ l.length ≤ 4000 ∧ z = dS (sset l)) ∨ ∃ F : FM, isF d F ∧ Few F ∧ z = dF (tset F))
theorem sem_set_of (ds : List PyData) (z : PyData) (h : ph_set_of ds z) : w_set_of (fun _ => z = .none) (fun y => y = z) (startE ["some"] ds) := by
  obtain ⟨d, rfl, ⟨l, e, hl, rfl⟩ | ⟨F, e, hf, rfl⟩⟩ := h
  · exact iRet (iCall (i1 (d := lS (sset l)) ⟨d, _, rfl, e, .inl ⟨l, rfl, hl, rfl⟩⟩) (iTuple rfl))
  · obtain ⟨U, h1, h2⟩ := hf.few
    exact iRet (iCall (i1 (d := lF (tset F)) ⟨d, _, rfl, e, .inr ⟨F, U, rfl, hf.len, h1, h2, rfl⟩⟩) (iTuple rfl))
/-! ### is_within, meets -/
def ph_is_within : Phi := fun ds z => ∃ d e xs ys, ds = [d, e] ∧ isS d xs ∧ isS e ys ∧ z = .bool (subB xs ys)
theorem sem_is_within (ds : List PyData) (z : PyData) (h : ph_is_within ds z) : w_is_within (fun _ => z = .none) (fun y => y = z) (startE ["some", "others", "own"] ds) := by
  obtain ⟨d, e, xs, ys, rfl, hd, he, rfl⟩ := h
  exact iRet (iCall (i1 (iLst' (iLc (iSeq rfl hd) (LcRun.map (g := fun x => .bool (decide (x ∈ ys))) xs fun x hx => ⟨_, rfl, iBin rfl rfl (phIn_s he)⟩)))) (iAllM _ _))
def ph_meets : Phi := fun ds z => ∃ d e xs ys, ds = [d, e] ∧ isS d xs ∧ isS e ys ∧ z = .bool (meetB xs ys)
theorem sem_meets (ds : List PyData) (z : PyData) (h : ph_meets ds z) : w_meets (fun _ => z = .none) (fun y => y = z) (startE ["some", "others", "key"] ds) := by
  obtain ⟨d, e, xs, ys, rfl, hd, he, rfl⟩ := h
  exact iRet (iCall (i1 (iLst' (iLc (iSeq rfl hd) (LcRun.map (g := fun x => .bool (decide (x ∈ ys))) xs fun x hx => ⟨_, rfl, iBin rfl rfl (phIn_s he)⟩)))) (iAnyM _ _))
/-! ### subsets -/
def subsF (xs : KS) : FM := xs.foldl (fun acc x => acc ++ acc.map fun lot => lot ++ [x]) [[]]
theorem subsF_snoc (xs : KS) (x : Str) : subsF (xs ++ [x]) = subsF xs ++ (subsF xs).map fun lot => lot ++ [x] := by
  unfold subsF; rw [List.foldl_append]; rfl
theorem take_succ {α : Type} {xs : List α} {i : Nat} (h : i < xs.length) : xs.take (i + 1) = xs.take i ++ [xs[i]] := by
  rw [List.take_add_one, List.getElem?_eq_getElem h]; rfl
theorem rev_ind {α : Type} {P : List α → Prop} (h0 : P []) (hs : ∀ l x, P l → P (l ++ [x])) : ∀ l, P l := fun l => by
  have : ∀ m : List α, P m.reverse := fun m => by
    induction m with
    | nil => exact h0
    | cons x m ih => rw [List.reverse_cons]; exact hs _ _ ih
  have := this l.reverse
  rwa [List.reverse_reverse] at this
theorem subsF_len (xs : KS) : (subsF xs).length = 2 ^ xs.length := by
  induction xs using rev_ind with
  | h0 => rfl
  | hs l x ih => rw [subsF_snoc, List.length_append, List.length_map, ih, List.length_append, List.length_singleton, Nat.pow_succ]; omega
theorem subsF_sub (xs : KS) : ∀ lot ∈ subsF xs, lot.Sublist xs := by
  induction xs using rev_ind with
  | h0 => intro lot h; rw [List.mem_singleton.mp h]; exact List.Sublist.refl _
  | hs l x ih =>
    intro lot h
    rw [subsF_snoc] at h
    rcases List.mem_append.mp h with h | h
    · exact (ih lot h).trans (List.sublist_append_left _ _)
    · obtain ⟨m, hm, rfl⟩ := List.mem_map.mp h
      exact (ih m hm).append (List.Sublist.refl _)
theorem mem_subsF {xs : KS} : ∀ {lot : KS}, lot.Sublist xs → lot ∈ subsF xs := by
  induction xs using rev_ind with
  | h0 => intro lot h; rw [List.sublist_nil.mp h]; exact List.mem_cons_self
  | hs l x ih =>
    intro lot h
    rw [subsF_snoc]
    obtain ⟨a, b, e, h1, h2⟩ := List.sublist_append_iff.mp h
    subst e
    cases b with
    | nil => rw [List.append_nil]; exact List.mem_append_left _ (ih h1)
    | cons y b =>
      have : y :: b = [x] := by
        have hl := h2.length_le
        rw [List.length_singleton, List.length_cons] at hl
        have hb : b = [] := List.eq_nil_of_length_eq_zero (by omega)
        subst hb
        exact List.Sublist.eq_of_length h2 rfl
      rw [this]
      exact List.mem_append_right _ (List.mem_map.mpr ⟨a, ih h1, rfl⟩)
def ph_subsets : Phi := fun ds z => ∃ d xs, ds = [d] ∧ isS d xs ∧ xs.length ≤ 10 ∧ z = lF (isort tupLe (subsF xs))
theorem sem_subsets (ds : List PyData) (z : PyData) (h : ph_subsets ds z) : w_subsets (fun _ => z = .none) (fun y => y = z) (startE ["things", "found", "own", "lot"] ds) := by
  obtain ⟨d, xs, rfl, hd, hl, rfl⟩ := h
  refine ⟨_, iLst (ds := [.tuple []]) (i1 (iTup iNil (by decide))) (by decide), ?_⟩
  refine ⟨_, iSeq rfl hd, fun i ε => ∃ v, ε = [some (.d d), some (.d (lF (subsF (xs.take i)))), v, none], ⟨none, rfl⟩, ?_, ?_⟩
  · rintro i hi ε1 ⟨v, rfl⟩
    rw [List.length_map] at hi
    refine ⟨_, rfl, ?_⟩
    rw [List.getElem_map]
    have hn : (xs.take i).length ≤ 10 := by rw [List.length_take]; omega
    have hp : 2 ^ (xs.take i).length ≤ 1024 := Nat.le_trans (Nat.pow_le_pow_right (by decide) hn) (by decide)
    refine ⟨_, iBin (e := .list ((subsF (xs.take i)).map fun lot => dS (lot ++ [xs[i]]))) rfl (iLst' (iLc (iSeq rfl (isF_lF _)) (LcRun.map (g := fun lot => dS (lot ++ [xs[i]])) _ fun lot hlot => ⟨_, rfl, ?_⟩))) ⟨_, _, rfl, rfl, ?_, rfl⟩, ⟨some (.d (.str xs[i])), ?_⟩⟩
    · have := (subsF_sub _ lot hlot).length_le
      have q := iTup (iStar (R := rVar 3) (A := rCons (rVar 2) rNil) (ρ := [some d, some (lF (subsF (xs.take i))), some (.str xs[i]), some (dS lot)]) rfl (isS_dS lot) (i1 rfl)) (by rw [List.length_append, List.length_map, List.length_singleton]; omega)
      have e : PyData.tuple (lot.map .str ++ [.str xs[i]]) = dS (lot ++ [xs[i]]) := by unfold dS; rw [List.map_append]; rfl
      rw [e] at q
      exact q
    · rw [List.length_map, List.length_map, subsF_len]; omega
    · rw [take_succ hi, subsF_snoc]
      show [some (Cell.d d), some (Cell.d (.list ((subsF (xs.take i)).map dS ++ (subsF (xs.take i)).map fun lot => dS (lot ++ [xs[i]])))), some (Cell.d (.str xs[i])), none] = _
      unfold lF
      rw [List.map_append, List.map_map]; rfl
  · rintro ε1 ⟨v, rfl⟩
    rw [List.length_map, List.take_length]
    exact iRet (iCall (i1 rfl) (iSortT _))
/-! ### least_sets -/
def ph_by_size : Phi := fun ds z => ∃ d F, ds = [d] ∧ isF d F ∧ F.length ≤ 100000 ∧ (∀ k ∈ F, k.length ≤ 1000000) ∧ z = lF (bsort F)
theorem sem_by_size (ds : List PyData) (z : PyData) (h : ph_by_size ds z) : w_by_size (fun _ => z = .none) (fun y => y = z) (startE ["sets"] ds) := by
  obtain ⟨d, F, rfl, hd, hl, hk, rfl⟩ := h
  exact iRet ⟨d, F, rfl, hd, hl, hk, rfl⟩
def ph_least_sets : Phi := fun ds z => ∃ d F, ds = [d] ∧ isF d F ∧ Few F ∧ z = dF (leastP F)
theorem lsList_take {F : FM} {i : Nat} (h : i < F.length) : lsList (F.take (i + 1)) = lsStep (lsList (F.take i)) F[i] := by
  unfold lsList; rw [take_succ h, List.foldl_append]; rfl
theorem sem_least_sets (ds : List PyData) (z : PyData) (h : ph_least_sets ds z) : w_least_sets ph_by_size ph_set_of ph_is_within (fun _ => z = .none) (fun y => y = z) (startE ["sets", "found", "lot", "own"] ds) := by
  obtain ⟨d, F, rfl, hd, hf, rfl⟩ := h
  have hts : (tset F).length ≤ 100000 := Nat.le_trans (canon_length _ _) hf.len
  have hB : (bsort (tset F)).length ≤ 100000 := by unfold bsort; rw [(isort_perm _ _).length_eq]; exact hts
  refine ⟨[], ⟨iNil, by decide⟩, ?_⟩
  refine ⟨_, iSeq (iCallN (i1 (iCallN (i1 rfl) rfl ⟨d, rfl, .inr ⟨F, hd, hf, rfl⟩⟩)) rfl ⟨_, tset F, rfl, isF_dF _, hts, fun k hk => Nat.le_trans (hf.keys k (tset_mem.1 hk)) (by decide), rfl⟩) (isF_lF _),
    fun i ε => ∃ v, ε = [some (.d d), some (.o ((lsList ((bsort (tset F)).take i)).map dS)), v, none], ⟨none, rfl⟩, ?_, ?_⟩
  · rintro i hi ε1 ⟨v, rfl⟩
    rw [List.length_map] at hi
    refine ⟨_, rfl, ?_⟩
    rw [List.getElem_map]
    show wIf _ _ _ (fun ε => ∃ v, ε = [some (.d d), some (.o ((lsList ((bsort (tset F)).take (i + 1))).map dS)), v, none]) _ _
    rw [lsList_take hi]
    have hlen : (lsList ((bsort (tset F)).take i)).length ≤ 100000 := Nat.le_trans (lsList_sub _).length_le (by rw [List.length_take]; omega)
    refine ⟨!(lsList ((bsort (tset F)).take i)).any (fun own => subB own (bsort (tset F))[i]), ?_, ?_⟩
    · refine show rOf _ _ (!!_) from ?_
      rw [Bool.not_not]
      exact iCall (i1 (iLst' (iLc (iSeq rfl (isF_lF _)) (LcRun.map (g := fun own => .bool (subB own (bsort (tset F))[i])) _ fun own _ => ⟨_, rfl, iCallN (i2 rfl rfl) rfl ⟨_, _, own, _, rfl, isS_dS _, isS_dS _, rfl⟩⟩)))) (iAnyM _ _)
    · unfold lsStep
      cases c : (lsList ((bsort (tset F)).take i)).any (fun own => subB own (bsort (tset F))[i]) with
      | true =>
        rw [if_pos rfl]
        exact .inr ⟨rfl, _, rfl⟩
      | false =>
        rw [if_neg (by decide)]
        exact .inl ⟨rfl, _, _, rfl, rfl, by rw [List.length_map]; omega, _, by rw [List.map_append]; rfl⟩
  · rintro ε1 ⟨v, rfl⟩
    rw [List.length_map, List.take_length]
    exact iRet (iCall (i1 (iCall (i1 rfl) (iSortT _))) (iTuple rfl))
end Vk

/-! ## VkSem2 -/
set_option Elab.async false
set_option linter.all false
set_option maxRecDepth 100000
set_option maxHeartbeats 1000000
/-! What the defs hand back, over data (2). -/
namespace Vk
open PySem PySem.Spec PyProof.Rows L2 LamX StX
/-! ### depth -/
def Dd (n : Nat) (d : PyData) : Prop := noDict d = true ∧ d.depth ≤ n
theorem Dd.le {n m : Nat} {d : PyData} (h : Dd n d) (l : n ≤ m) : Dd m d := ⟨h.1, Nat.le_trans h.2 l⟩
theorem dd_all {n : Nat} : ∀ {xs : List PyData}, (∀ x ∈ xs, Dd n x) → noDict.noDictAll xs = true ∧ PyData.depthAll xs ≤ n
  | [], _ => ⟨rfl, by rw [PyData.depthAll]; omega⟩
  | x :: xs, h => by
    obtain ⟨h1, h2⟩ := dd_all fun y hy => h y (List.mem_cons_of_mem _ hy)
    obtain ⟨h3, h4⟩ := h x List.mem_cons_self
    refine ⟨?_, ?_⟩
    · show (noDict x && noDict.noDictAll xs) = true
      rw [h1, h3]; rfl
    · rw [PyData.depthAll]; omega
theorem dd_mem {n : Nat} : ∀ {xs : List PyData}, noDict.noDictAll xs = true → PyData.depthAll xs ≤ n → ∀ x ∈ xs, Dd n x
  | y :: xs, h, hd, x, hx => by
    have h' : (noDict y && noDict.noDictAll xs) = true := h
    rw [Bool.and_eq_true] at h'
    rw [PyData.depthAll] at hd
    rcases List.mem_cons.mp hx with rfl | hx
    · exact ⟨h'.1, by omega⟩
    · exact dd_mem h'.2 (by omega) x hx
theorem dd_list {n : Nat} {xs : List PyData} (h : ∀ x ∈ xs, Dd n x) : Dd (n + 1) (.list xs) := ⟨(dd_all h).1, by rw [PyData.depth]; have := (dd_all h).2; omega⟩
theorem dd_tuple {n : Nat} {xs : List PyData} (h : ∀ x ∈ xs, Dd n x) : Dd (n + 1) (.tuple xs) := ⟨(dd_all h).1, by rw [PyData.depth]; have := (dd_all h).2; omega⟩
theorem dd_str (x : Str) {n : Nat} : Dd n (.str x) := ⟨rfl, by show 0 ≤ n; omega⟩
theorem dd_strs {n : Nat} (l : KS) : ∀ x ∈ l.map PyData.str, Dd n x := fun x hx => by
  obtain ⟨y, _, rfl⟩ := List.mem_map.mp hx
  exact dd_str y
theorem dd_dS (k : KS) {n : Nat} : Dd (n + 1) (dS k) := dd_tuple (dd_strs k)
theorem dd_lS (k : KS) {n : Nat} : Dd (n + 1) (lS k) := dd_list (dd_strs k)
theorem dd_map {α : Type} {n : Nat} {f : α → PyData} {l : List α} (h : ∀ a ∈ l, Dd n (f a)) : ∀ x ∈ l.map f, Dd n x := fun x hx => by
  obtain ⟨y, hy, rfl⟩ := List.mem_map.mp hx
  exact h y hy
theorem dd_dF (F : FM) {n : Nat} : Dd (n + 2) (dF F) := dd_tuple (dd_map fun k _ => dd_dS k)
theorem dd_lF (F : FM) {n : Nat} : Dd (n + 2) (lF F) := dd_list (dd_map fun k _ => dd_dS k)
def vD (K : KS) (F : FM) : PyData := .tuple [dS K, dF F]
theorem dd_pair {n : Nat} {a b : PyData} (ha : Dd n a) (hb : Dd n b) : Dd (n + 1) (.tuple [a, b]) := dd_tuple fun x hx => by
  rcases List.mem_cons.mp hx with rfl | hx
  · exact ha
  · rw [List.mem_singleton.mp hx]; exact hb
theorem dd_vD (K : KS) (F : FM) {n : Nat} : Dd (n + 3) (vD K F) := dd_pair ((dd_dS K (n := n + 1))) (dd_dF F)
def hP (p : Str × KS) : PyData := .tuple [.str p.1, dS p.2]
def hangD (h : Hang) : PyData := .tuple (h.map hP)
theorem dd_hangD (h : Hang) {n : Nat} : Dd (n + 3) (hangD h) := dd_tuple (dd_map fun p _ => dd_pair (dd_str _) (dd_dS _))
/-! ### tupled -/
mutual
def tup : PyData → PyData
  | .list xs => .tuple (tups xs)
  | .tuple xs => .tuple (tups xs)
  | .none => .none
  | .bool b => .bool b
  | .int i => .int i
  | .str x => .str x
  | .dict kvs => .dict kvs
def tups : List PyData → List PyData
  | [] => []
  | x :: xs => tup x :: tups xs
end
theorem tups_map : ∀ xs : List PyData, tups xs = xs.map tup
  | [] => by rw [tups]; rfl
  | x :: xs => by rw [tups, tups_map xs]; rfl
theorem tup_seq {d : PyData} {xs : List PyData} (h : seqOf d = some xs) : tup d = .tuple (xs.map tup) := by
  cases d with
  | list ys => cases h; rw [tup, tups_map]
  | tuple ys => cases h; rw [tup, tups_map]
  | _ => cases h
theorem tup_str (x : Str) : tup (.str x) = .str x := by rw [tup]
theorem tup_strs {d : PyData} {l : KS} (h : isS d l) : tup d = dS l := by
  rw [tup_seq h, List.map_map]
  unfold dS
  refine congrArg PyData.tuple ?_
  exact List.map_congr_left fun a _ => tup_str a
theorem tup_dS (k : KS) : tup (dS k) = dS k := tup_strs (isS_dS k)
theorem tup_F {d : PyData} {F : FM} (h : isF d F) : tup d = dF F := by
  rw [tup_seq h, List.map_map]
  unfold dF
  refine congrArg PyData.tuple ?_
  exact List.map_congr_left fun a _ => tup_dS a
theorem tup_hangD (h : Hang) : tup (hangD h) = hangD h := by
  rw [tup_seq (d := hangD h) rfl, List.map_map]
  unfold hangD
  congr 1
  exact List.map_congr_left fun a _ => by
    show tup (hP a) = hP a
    rw [tup_seq (d := hP a) rfl]
    show PyData.tuple [tup (.str a.1), tup (dS a.2)] = _
    rw [tup_str, tup_dS]; rfl
def ph_tup (n : Nat) : Phi := fun ds z => ∃ d, ds = [d] ∧ Dd n d ∧ z = tup d
theorem isTy_seq {d : PyData} {xs : List PyData} (h : seqOf d = some xs) : (isTy d "list" || isTy d "tuple") = true := by
  cases d with
  | list ys => rfl
  | tuple ys => rfl
  | _ => cases h
theorem isTy_no {d : PyData} (h : seqOf d = none) : (isTy d "list" || isTy d "tuple") = false := by
  cases d with
  | list ys => cases h
  | tuple ys => cases h
  | _ => rfl
theorem tup_no {d : PyData} (h : seqOf d = none) : tup d = d := by
  cases d with
  | list ys => cases h
  | tuple ys => cases h
  | _ => rw [tup]
theorem dd_items {n : Nat} {d : PyData} {xs : List PyData} (h : Dd (n + 1) d) (e : seqOf d = some xs) : ∀ x ∈ xs, Dd n x := by
  obtain ⟨h1, h2⟩ := h
  cases d with
  | list ys => cases e; rw [PyData.depth] at h2; exact dd_mem h1 (by omega)
  | tuple ys => cases e; rw [PyData.depth] at h2; exact dd_mem h1 (by omega)
  | _ => cases e
theorem lc_each {i : Nat} {R : RE} {ρ : DEnv} {g : PyData → PyData} (xs : List PyData) (h : ∀ x ∈ xs, R (ρ.set i (some x)) (g x)) : LcRun (.nm i) rYes R ρ xs (xs.map g) := by
  have := LcRun.map (b := .nm i) (e := id) (g := g) (ρ := ρ) (R := R) xs fun x hx => ⟨_, rfl, h x hx⟩
  rwa [List.map_id] at this
theorem sem_tupled {n : Nat} (ds : List PyData) (z : PyData) (h : ph_tup (n + 1) ds z) : w_tupled (ph_tup n) (fun _ => z = .none) (fun y => y = z) (startE ["value", "part"] ds) := by
  obtain ⟨d, rfl, hd, rfl⟩ := h
  cases e : seqOf d with
  | some xs =>
    rw [tup_seq e]
    exact iRet ⟨true, ⟨d, rfl, hd.1, by rw [isTy_seq e]⟩, .inl ⟨rfl, iCall (i1 (iLst' (iLc (iSeq rfl e) (lc_each xs fun x hx => iCallN (i1 rfl) rfl ⟨x, rfl, dd_items hd e x hx, rfl⟩)))) (iTuple rfl)⟩⟩
  | none =>
    rw [tup_no e]
    exact iRet ⟨false, ⟨d, rfl, hd.1, by rw [isTy_no e]⟩, .inr ⟨rfl, rfl⟩⟩
abbrev ph_tupled : Phi := ph_tup 11
theorem iTupled {d : PyData} (h : Dd 9 d) : ph_tupled [d] (tup d) := ⟨d, rfl, h.le (by decide), rfl⟩
theorem iTupledS {d : PyData} {l : KS} (h : isS d l) : ph_tupled [d] (dS l) := by
  have : Dd 9 d := by
    cases d with
    | list ys => cases h; exact dd_lS l
    | tuple ys => cases h; exact dd_dS l
    | _ => cases h
  have q := iTupled this
  rwa [tup_strs h] at q
theorem iTupledF {d : PyData} {F : FM} (h : isF d F) : ph_tupled [d] (dF F) := by
  have : Dd 9 d := by
    cases d with
    | list ys => cases h; exact dd_lF F
    | tuple ys => cases h; exact dd_dF F
    | _ => cases h
  have q := iTupled this
  rwa [tup_F h] at q
/-! ### check_keys -/
def ph_check_keys : Phi := fun ds z => ∃ K F e xs, ds = [vD K F, e] ∧ isS e xs ∧ (∀ x ∈ xs, x ∈ K) ∧ z = .none
theorem vD0 {K : KS} {F : FM} {R : RE} {ρ : DEnv} (h : R ρ (vD K F)) : rBin phIx R (rK (.int 0)) ρ (dS K) := iIx0 h rfl
theorem vD1 {K : KS} {F : FM} {R : RE} {ρ : DEnv} (h : R ρ (vD K F)) : rBin phIx R (rK (.int 1)) ρ (dF F) := iIx1 h rfl
theorem sem_check_keys (ds : List PyData) (z : PyData) (h : ph_check_keys ds z) : w_check_keys (fun _ => z = .none) (fun y => y = z) (startE ["vault", "names", "name"] ds) := by
  obtain ⟨K, F, e, xs, rfl, he, hx, rfl⟩ := h
  refine ⟨_, iSeq rfl he, fun i ε => ∃ v, ε = [some (.d (vD K F)), some (.d e), v], ⟨none, rfl⟩, ?_, fun _ _ => rfl⟩
  rintro i hi ε1 ⟨v, rfl⟩
  rw [List.length_map] at hi
  refine ⟨_, rfl, false, ?_, .inr ⟨rfl, some (.d (.str xs[i])), by rw [List.getElem_map]; rfl⟩⟩
  rw [List.getElem_map]
  have q : phIn true (.str xs[i]) (dS K) (.bool (!decide (xs[i] ∈ K))) := phNotIn_s (isS_dS K)
  rw [decide_eq_true (hx _ (List.getElem_mem hi))] at q
  exact iBin rfl (vD0 rfl) q
/-! ### has_opener, open_table -/
def ph_has_opener : Phi := fun ds z => ∃ d e F h, ds = [d, e] ∧ isF d F ∧ isS e h ∧ z = .bool (opB F h)
theorem sem_has_opener (ds : List PyData) (z : PyData) (h : ph_has_opener ds z) : w_has_opener ph_is_within (fun _ => z = .none) (fun y => y = z) (startE ["openers", "held", "own"] ds) := by
  obtain ⟨d, e, F, h, rfl, hd, he, rfl⟩ := h
  exact iRet (iCall (i1 (iLst' (iLc (iSeq rfl hd) (LcRun.map (g := fun o => .bool (subB o h)) F fun o _ => ⟨_, rfl, iCallN (i2 rfl rfl) rfl ⟨_, _, o, h, rfl, isS_dS o, he, rfl⟩⟩)))) (iAnyM _ _))
/-- all sets of keys, sorted -/
def allS (K : KS) : FM := isort tupLe (subsF K)
theorem subsF_nodup {K : KS} (h : K.Nodup) : (subsF K).Nodup := by
  induction K using rev_ind with
  | h0 => exact List.nodup_cons.mpr ⟨by simp, List.nodup_nil⟩
  | hs l x ih =>
    obtain ⟨h1, _, h3⟩ := List.nodup_append.mp h
    have hx : x ∉ l := fun z => h3 x z x List.mem_cons_self rfl
    rw [subsF_snoc]
    refine List.nodup_append.mpr ⟨ih h1, ?_, fun a ha b hb e => ?_⟩
    · refine List.Pairwise.map _ (fun a b n e => n ?_) (ih h1)
      exact List.append_cancel_right e
    · subst e
      obtain ⟨m, _, rfl⟩ := List.mem_map.mp hb
      exact hx ((subsF_sub l _ ha).subset (List.mem_append_right _ List.mem_cons_self))
theorem allS_nodup {K : KS} (h : K.Nodup) : (allS K).Nodup := (isort_perm _ _).nodup_iff.mpr (subsF_nodup h)
theorem allS_len {K : KS} : (allS K).length = 2 ^ K.length := by unfold allS; rw [(isort_perm _ _).length_eq, subsF_len]
def tabP (K : KS) (F : FM) : List (List Str × Bool) := (allS K).map fun lot => (lot, opB F lot)
def tabOf (K : KS) (F : FM) : PyData := .dict ((tabP K F).map tbD)
def ph_open_table : Phi := fun ds z => ∃ K F, ds = [vD K F] ∧ K.Nodup ∧ K.length ≤ 10 ∧ z = tabOf K F
theorem sem_open_table (ds : List PyData) (z : PyData) (h : ph_open_table ds z) : w_open_table ph_tupled ph_subsets ph_has_opener (fun _ => z = .none) (fun y => y = z) (startE ["vault", "openers", "lot"] ds) := by
  obtain ⟨K, F, rfl, hn, hl, rfl⟩ := h
  have hp : 2 ^ K.length ≤ 1024 := Nat.le_trans (Nat.pow_le_pow_right (by decide) hl) (by decide)
  refine ⟨dF F, iCallN (i1 (vD1 rfl)) rfl (iTupledF (isF_dF F)), ?_⟩
  refine iRet ⟨_, tabP K F, iSeq (iCallN (i1 (iCallN (i1 (vD0 rfl)) rfl (iTupledS (isS_dS K)))) rfl ⟨_, K, rfl, isS_dS K, hl, rfl⟩) (isF_lF _), ?_, ?_, ?_, ?_, rfl⟩
  · unfold tabP; rw [List.length_map, List.length_map]; rfl
  · unfold tabP; rw [List.length_map, allS_len]; omega
  · unfold tabP
    rw [List.map_map]
    have : (allS K).map ((fun p : List Str × Bool => p.1) ∘ fun lot => (lot, opB F lot)) = allS K := by
      show (allS K).map (fun lot => lot) = _
      exact List.map_id' _
    rw [this]; exact allS_nodup hn
  · intro i d p h1 h2
    rw [List.getElem?_map] at h1
    unfold tabP at h2
    rw [List.getElem?_map] at h2
    have e : (allS K)[i]? = (isort tupLe (subsF K))[i]? := rfl
    rw [← e] at h1
    cases q : (allS K)[i]? with
    | none => rw [q] at h1; cases h1
    | some lot =>
      rw [q] at h1 h2
      cases h1
      cases h2
      exact ⟨_, rfl, rfl, iCallN (i2 rfl rfl) rfl ⟨_, _, F, lot, rfl, isF_dF F, isS_dS lot, rfl⟩⟩
/-! ### least_vault -/
/-- a list of lists of texts -/
def isSs (e : PyData) (F : FM) : Prop := ∃ xs, seqOf e = some xs ∧ xs.length = F.length ∧ ∀ (i : Nat) d k, xs[i]? = some d → F[i]? = some k → isS d k
theorem isSs_F {e : PyData} {F : FM} (h : isF e F) : isSs e F := ⟨_, h, List.length_map .., fun i d k h1 h2 => by
  rw [List.getElem?_map, h2] at h1
  cases h1
  exact isS_dS k⟩
theorem isSs_map {α : Type} {e : PyData} {l : List α} {f : α → PyData} {g : α → KS} (h : seqOf e = some (l.map f)) (hs : ∀ a ∈ l, isS (f a) (g a)) : isSs e (l.map g) := ⟨_, h, by rw [List.length_map, List.length_map], fun i d k h1 h2 => by
  rw [List.getElem?_map] at h1 h2
  cases q : l[i]? with
  | none => rw [q] at h1; cases h1
  | some a =>
    rw [q] at h1 h2
    cases h1
    cases h2
    exact hs a (List.mem_of_getElem? q)⟩
theorem isS_dd {d : PyData} {l : KS} (h : isS d l) {n : Nat} : Dd (n + 1) d := by
  cases d with
  | list ys => cases h; exact dd_lS l
  | tuple ys => cases h; exact dd_dS l
  | _ => cases h
theorem isSs_tup {e : PyData} {F : FM} (h : isSs e F) : Dd 2 e ∧ tup e = dF F := by
  obtain ⟨xs, e1, e2, e3⟩ := h
  have hx : ∀ x ∈ xs, Dd 1 x := fun x hx => by
    obtain ⟨i, hi, rfl⟩ := List.getElem_of_mem hx
    exact isS_dd (e3 i _ F[i] (List.getElem?_eq_getElem hi) (List.getElem?_eq_getElem (by omega)))
  refine ⟨?_, ?_⟩
  · cases e with
    | list ys => cases e1; exact dd_list hx
    | tuple ys => cases e1; exact dd_tuple hx
    | _ => cases e1
  · rw [tup_seq e1]
    unfold dF
    congr 1
    apply List.ext_getElem
    · rw [List.length_map, List.length_map, e2]
    · intro i h1 h2
      rw [List.length_map] at h1 h2
      rw [List.getElem_map, List.getElem_map]
      exact tup_strs (e3 i _ _ (List.getElem?_eq_getElem h1) (List.getElem?_eq_getElem h2))
def ph_least_vault : Phi := fun ds z => ∃ d e K F, ds = [d, e] ∧ isS d K ∧ isSs e F ∧ (∀ k ∈ F, k.length ≤ 1000) ∧ Few (F.map sset) ∧ z = vD K (lsF F)
theorem sem_least_vault (ds : List PyData) (z : PyData) (h : ph_least_vault ds z) : w_least_vault ph_least_sets ph_tupled ph_set_of (fun _ => z = .none) (fun y => y = z) (startE ["keys", "sets", "own"] ds) := by
  obtain ⟨d, e, K, F, rfl, hd, he, hk, hf, rfl⟩ := h
  obtain ⟨h1, h2⟩ := isSs_tup he
  have ht : ph_tupled [e] (dF F) := by have := iTupled (h1.le (by decide : 2 ≤ 9)); rwa [h2] at this
  refine iRet (iTup (i2 (iCallN (i1 rfl) rfl (iTupledS hd)) (iCallN (i1 (d := lF (F.map sset)) ?_) rfl ⟨_, F.map sset, rfl, isF_lF _, hf, rfl⟩)) (by show 2 ≤ 1000000; decide))
  have q := iLst' (iLc (own := [2]) (b := .nm 2) (R := rCallN 1 ph_set_of (rCons (rVar 2) rNil)) (ρ := [some d, some e, none]) (I := rSeq (rCallN 1 ph_tupled (rCons (rVar 1) rNil))) (iSeq (iCallN (i1 rfl) rfl ht) (isF_dF F)) (LcRun.map (g := fun o => dS (sset o)) F fun o ho => ⟨_, rfl, iCallN (i1 rfl) rfl ⟨_, rfl, .inl ⟨o, isS_dS o, Nat.le_trans (hk o ho) (by decide), rfl⟩⟩⟩))
  unfold lF
  rw [List.map_map]
  exact q
end Vk

/-! ## VkSem3 -/
set_option Elab.async false
set_option linter.all false
set_option maxRecDepth 100000
set_option maxHeartbeats 1000000
/-! What the defs hand back, over data (3). -/
namespace Vk
open PySem PySem.Spec PyProof.Rows L2 LamX StX
/-! ### barriers_of -/
/-- at each step there are few sets -/
structure BarOk (F : FM) : Prop where
  few : ∀ (i : Nat) (h : i < F.length), Few (barL (barP (F.take i)) F[i])
  keys : ∀ (i : Nat) (h : i < F.length), ∀ own ∈ barP (F.take i), own.length ≤ 1000
theorem barP_take {F : FM} {i : Nat} (h : i < F.length) : barP (F.take (i + 1)) = barStep (barP (F.take i)) F[i] := by
  unfold barP; rw [take_succ h, List.foldl_append]; rfl
def ph_barriers_of : Phi := fun ds z => ∃ d F, ds = [d] ∧ isF d F ∧ BarOk F ∧ z = dF (barP F)
theorem sem_barriers_of (ds : List PyData) (z : PyData) (h : ph_barriers_of ds z) : w_barriers_of ph_meets ph_set_of ph_least_sets (fun _ => z = .none) (fun y => y = z) (startE ["openers", "found", "opener", "fine", "later", "own", "key"] ds) := by
  obtain ⟨d, F, rfl, hd, hf, rfl⟩ := h
  refine ⟨dF [[]], iTup (i1 (iTup iNil (by decide))) (by decide), ?_⟩
  refine ⟨_, iSeq rfl hd, fun i ε => ∃ v2 v3 v4, ε = [some (.d d), some (.d (dF (barP (F.take i)))), v2, v3, v4, none, none], ⟨none, none, none, rfl⟩, ?_, ?_⟩
  · rintro i hi ε1 ⟨v2, v3, v4, rfl⟩
    rw [List.length_map] at hi
    refine ⟨_, rfl, ?_⟩
    rw [List.getElem_map]
    have few := hf.few i hi
    have kl := hf.keys i hi
    generalize eB : barP (F.take i) = B at few kl
    generalize eO : F[i] = o at few
    have hlen := few.len
    unfold barL at hlen
    rw [List.length_append] at hlen
    refine ⟨lF (B.filter fun own => meetB own o), iLst' (iLc (iSeq rfl (isF_dF B)) (LcRun.of (e := dS) (p := fun own => meetB own o) (g := dS) B fun own _ => ⟨_, rfl, iCallN (i2 rfl rfl) rfl ⟨_, _, own, o, rfl, isS_dS own, isS_dS o, rfl⟩, fun _ => rfl⟩)), ?_⟩
    refine ⟨lF ((B.filter fun own => !meetB own o).flatMap fun own => o.map fun key => sset (own ++ [key])), ?_, ?_⟩
    · have run := Lc2Run.of (b := .nm 5) (C := rNot (rOf (rCallN 2 ph_meets (rCons (rVar 5) (rCons (rVar 2) rNil))))) (I1 := rSeq (rVar 2)) (b1 := .nm 6) (C1 := rYes) (R := rCallN 1 ph_set_of (rCons (rLst (rStar (rVar 5) (rCons (rVar 6) rNil))) rNil))
        (ρ := [some d, some (dF B), some (dS o), some (lF (B.filter fun own => meetB own o)), mk1 v4, none, none]) (e := dS) (p := fun own => !meetB own o) (g := fun own => o.map fun key => dS (sset (own ++ [key]))) B fun own ho => ⟨_, rfl, by
          show rOf _ _ (!!meetB own o)
          rw [Bool.not_not]
          exact iCallN (i2 rfl rfl) rfl ⟨_, _, own, o, rfl, isS_dS own, isS_dS o, rfl⟩, fun _ => ⟨_, iSeq rfl (isS_dS o), LcRun.map o fun key _ => ⟨_, rfl, by
          have hl := kl own ho
          refine iCallN (i1 (iLst (iStar (R := rVar 5) (A := rCons (rVar 6) rNil) rfl (isS_dS own) (i1 rfl)) (by rw [List.length_append, List.length_map, List.length_singleton]; omega))) rfl ⟨_, rfl, .inl ⟨own ++ [key], ?_, by rw [List.length_append, List.length_singleton]; omega, rfl⟩⟩
          show some (own.map PyData.str ++ [PyData.str key]) = _
          rw [List.map_append]; rfl⟩⟩⟩
      refine ⟨_, ⟨_, iSeq rfl (isF_dF B), ?_, run⟩, ?_⟩
      · have e : ((B.filter fun own => !meetB own o).flatMap fun own => o.map fun key => dS (sset (own ++ [key]))).length = ((B.filter fun own => !meetB own o).flatMap fun own => o.map fun key => sset (own ++ [key])).length := by
          rw [List.length_flatMap, List.length_flatMap]
          congr 1
          exact List.map_congr_left fun a _ => by rw [List.length_map, List.length_map]
        rw [e]; omega
      · unfold lF
        rw [List.map_flatMap]
        congr 1
        congr 1
        funext own
        rw [List.map_map]; rfl
    · refine ⟨dF (barStep B o), iCallN (i1 (d := lF (barL B o)) ?_) rfl ⟨_, barL B o, rfl, isF_lF _, few, rfl⟩, some (.d (dS o)), some (.d (lF (B.filter fun own => meetB own o))), some (.d (lF ((B.filter fun own => !meetB own o).flatMap fun own => o.map fun key => sset (own ++ [key])))), ?_⟩
      · have q := iLst (A := rStar (rVar 3) (rStar (rVar 4) rNil)) (ρ := [some d, some (dF B), some (dS o), some (lF (B.filter fun own => meetB own o)), some (lF ((B.filter fun own => !meetB own o).flatMap fun own => o.map fun key => sset (own ++ [key]))), none, none]) (iStar rfl (isF_lF _) (iStar rfl (isF_lF _) iNil)) (by
          rw [List.append_nil, List.length_append, List.length_map, List.length_map]; exact Nat.le_trans hlen (by decide))
        rw [List.append_nil, ← List.map_append] at q
        exact q
      · rw [barP_take hi, eB, eO]; rfl
  · rintro ε1 ⟨v2, v3, v4, rfl⟩
    rw [List.length_map, List.take_length]
    exact iRet rfl
def ph_barriers : Phi := fun ds z => ∃ K F, ds = [vD K F] ∧ BarOk F ∧ z = dF (barP F)
theorem sem_barriers (ds : List PyData) (z : PyData) (h : ph_barriers ds z) : w_barriers ph_barriers_of ph_tupled (fun _ => z = .none) (fun y => y = z) (startE ["vault"] ds) := by
  obtain ⟨K, F, rfl, hf, rfl⟩ := h
  exact iRet (iCallN (i1 (iCallN (i1 (vD1 rfl)) rfl (iTupledF (isF_dF F)))) rfl ⟨_, F, rfl, isF_dF F, hf, rfl⟩)
/-! ### undoes, undone_vault -/
abbrev isH (d : PyData) (h : Hang) : Prop := seqOf d = some (h.map hP)
def ph_undoes : Phi := fun ds z => ∃ d e hang h, ds = [d, e] ∧ isH d hang ∧ isS e h ∧ z = .bool (undB hang h)
theorem sem_undoes (ds : List PyData) (z : PyData) (h : ph_undoes ds z) : w_undoes (fun _ => z = .none) (fun y => y = z) (startE ["hanging", "held", "lock", "holders", "name"] ds) := by
  obtain ⟨d, e, hang, h, rfl, hd, he, rfl⟩ := h
  refine iRet (iCall (i1 (iLst' (iLc (iSeq rfl hd) (LcRun.map (g := fun p => .bool (meetB p.2 h)) hang fun p _ => ⟨_, ⟨_, rfl, rfl, rfl⟩, ?_⟩)))) (iAllM _ _))
  exact iCall (i1 (iLst' (iLc (iSeq rfl (isS_dS p.2)) (LcRun.map (g := fun x => .bool (decide (x ∈ h))) p.2 fun x hx => ⟨_, rfl, iBin rfl rfl (phIn_s he)⟩)))) (iAnyM _ _)
def ph_undone_vault : Phi := fun ds z => ∃ K F hang, ds = [vD K F, hangD hang] ∧ BarOk (hang.map (·.2)) ∧ z = vD K (barP (hang.map (·.2)))
theorem iTupledH (h : Hang) : ph_tupled [hangD h] (hangD h) := by
  have q := iTupled (dd_hangD h (n := 6))
  rwa [tup_hangD] at q
theorem hP1 {p : Str × KS} {R : RE} {ρ : DEnv} (h : R ρ (hP p)) : rBin phIx R (rK (.int 1)) ρ (dS p.2) := iIx1 h rfl
theorem hP0 {p : Str × KS} {R : RE} {ρ : DEnv} (h : R ρ (hP p)) : rBin phIx R (rK (.int 0)) ρ (.str p.1) := iIx0 h rfl
theorem sem_undone_vault (ds : List PyData) (z : PyData) (h : ph_undone_vault ds z) : w_undone_vault ph_barriers_of ph_tupled (fun _ => z = .none) (fun y => y = z) (startE ["vault", "hanging", "own"] ds) := by
  obtain ⟨K, F, hang, rfl, hf, rfl⟩ := h
  refine iRet (iTup (i2 (iCallN (i1 (vD0 rfl)) rfl (iTupledS (isS_dS K))) (iCallN (i1 (d := lF (hang.map (·.2))) ?_) rfl ⟨_, _, rfl, isF_lF _, hf, rfl⟩)) (by show 2 ≤ 1000000; decide))
  have q := iLst' (iLc (own := [2]) (b := .nm 2) (R := rBin phIx (rVar 2) (rK (.int 1))) (ρ := [some (vD K F), some (hangD hang), none]) (I := rSeq (rCallN 1 ph_tupled (rCons (rVar 1) rNil))) (iSeq (iCallN (i1 rfl) rfl (iTupledH hang)) rfl) (LcRun.map (e := hP) (g := fun p => dS p.2) hang fun p _ => ⟨_, rfl, hP1 rfl⟩))
  unfold lF
  rw [List.map_map]
  exact q
/-! ### is_right -/
def ph_wrong_held : Phi := fun ds z => ∃ K F hang, ds = [vD K F, hangD hang] ∧ K.Nodup ∧ K.length ≤ 10 ∧ (∀ lot ∈ allS K, opB F lot = undB hang lot) ∧ z = .none
theorem tabP_ne (K : KS) (F : FM) : tabP K F ≠ [] := fun z => by
  have h := congrArg List.length z
  unfold tabP at h
  rw [List.length_map, allS_len] at h
  have : 0 < 2 ^ K.length := Nat.pow_pos (by decide)
  simp at h
theorem tabP_len {K : KS} {F : FM} (hl : K.length ≤ 10) : (tabP K F).length ≤ 1024 := by
  unfold tabP
  rw [List.length_map, allS_len]
  exact Nat.le_trans (Nat.pow_le_pow_right (by decide) hl) (by decide)
theorem sem_wrong_held (ds : List PyData) (z : PyData) (h : ph_wrong_held ds z) : w_wrong_held ph_by_size ph_open_table ph_undoes (fun _ => z = .none) (fun y => y = z) (startE ["vault", "hanging", "found", "lot", "is_open"] ds) := by
  obtain ⟨K, F, hang, rfl, hn, hl, heq, rfl⟩ := h
  have hlen := tabP_len (F := F) hl
  refine ⟨lF [], iCallN (i1 (d := lF []) ?_) rfl ⟨_, [], rfl, rfl, by decide, (fun k hk => by cases hk), rfl⟩, ?_⟩
  · have run := LcRun.of (b := .tp [3, 4]) (C := rOf (rBin phNe (rVar 4) (rCallN 2 ph_undoes (rCons (rVar 1) (rCons (rVar 3) rNil))))) (R := rVar 3) (ρ := [some (vD K F), some (hangD hang), none, none, none])
      (e := fun p : List Str × Bool => .tuple [dS p.1, .bool p.2]) (p := fun _ => false) (g := fun _ => .none) (tabP K F) fun p hp => ⟨_, ⟨_, rfl, rfl, rfl⟩, by
        unfold tabP at hp
        obtain ⟨lot, hlot, rfl⟩ := List.mem_map.mp hp
        have e := heq lot hlot
        refine iBin rfl (iCallN (i2 rfl rfl) rfl ⟨_, _, hang, lot, rfl, rfl, isS_dS lot, rfl⟩) ⟨fit_bool _, fit_bool _, ?_⟩
        rw [e]
        have : PyData.eqv (.bool (undB hang lot)) (.bool (undB hang lot)) = true := by cases undB hang lot <;> rfl
        rw [this]; rfl, fun q => by cases q⟩
    have hnil : ((tabP K F).filter fun _ => false) = [] := List.filter_eq_nil_iff.mpr fun _ _ h => by cases h
    rw [hnil] at run
    exact iLst' (iLc ⟨tabP K F, iCallN (i1 rfl) rfl ⟨K, F, rfl, hn, hl, rfl⟩, tabP_ne K F, by omega, rfl⟩ run)
  · exact iRet ⟨false, iBin (iCall (i1 rfl) (iLen (isF_lF []))) rfl ⟨0, 0, rfl, rfl, rfl⟩, .inr ⟨rfl, rfl⟩⟩
def ph_is_right : Phi := fun ds z => ∃ K F hang, ds = [vD K F, hangD hang] ∧ K.Nodup ∧ K.length ≤ 10 ∧ (∀ lot ∈ allS K, opB F lot = undB hang lot) ∧ z = .bool true
theorem sem_is_right (ds : List PyData) (z : PyData) (h : ph_is_right ds z) : w_is_right ph_wrong_held (fun _ => z = .none) (fun y => y = z) (startE ["vault", "hanging"] ds) := by
  obtain ⟨K, F, hang, rfl, hn, hl, heq, rfl⟩ := h
  exact iRet ⟨.none, iCallN (i2 rfl rfl) rfl ⟨K, F, hang, rfl, hn, hl, heq, rfl⟩, .inl ⟨rfl, rfl⟩⟩
/-! ### fewest_locks, hung -/
def ph_fewest_locks : Phi := fun ds z => ∃ K F, ds = [vD K F] ∧ BarOk F ∧ z = .int (barP F).length
theorem sem_fewest_locks (ds : List PyData) (z : PyData) (h : ph_fewest_locks ds z) : w_fewest_locks ph_barriers (fun _ => z = .none) (fun y => y = z) (startE ["vault"] ds) := by
  obtain ⟨K, F, rfl, hf, rfl⟩ := h
  have q := iLen (isF_dF (barP F))
  rw [List.length_map] at q
  exact iRet (iCall (i1 (iCallN (i1 rfl) rfl ⟨K, F, rfl, hf, rfl⟩)) q)
theorem zip_pairs : ∀ (ns : KS) (F : FM), ((ns.map PyData.str).zip (F.map dS)).map pairD = (ns.zip F).map hP
  | [], _ => rfl
  | _ :: _, [] => rfl
  | n :: ns, k :: F => by
    rw [List.map_cons, List.map_cons, List.zip_cons_cons, List.map_cons, List.zip_cons_cons, List.map_cons, zip_pairs ns F]; rfl
def ph_hung : Phi := fun ds z => ∃ K F e ns, ds = [vD K F, e] ∧ isS e ns ∧ BarOk F ∧ (barP F).length ≤ ns.length ∧ ns.length ≤ 1000 ∧ z = hangD (ns.zip (barP F))
theorem sem_hung (ds : List PyData) (z : PyData) (h : ph_hung ds z) : w_hung ph_fewest_locks ph_tupled ph_barriers (fun _ => z = .none) (fun y => y = z) (startE ["vault", "names"] ds) := by
  obtain ⟨K, F, e, ns, rfl, he, hf, hl, hz, rfl⟩ := h
  refine ⟨false, ?_, .inr ⟨rfl, ?_⟩⟩
  · have q := iLen he
    rw [List.length_map] at q
    refine iBin (iCall (i1 rfl) q) (iCallN (i1 rfl) rfl ⟨K, F, rfl, hf, rfl⟩) ⟨_, _, rfl, rfl, ?_⟩
    show PyData.bool false = .bool (decide ((ns.length : Int) < ((barP F).length : Int)))
    rw [decide_eq_false (by omega)]
  · show wRet _ (fun _ => hangD (ns.zip (barP F)) = .none) _ _
    refine iRet (iCall (i1 (d := .list ((ns.zip (barP F)).map hP)) ⟨dS ns, dF (barP F), _, _, iCallN (i1 rfl) rfl (iTupledS he), iCallN (i1 rfl) rfl ⟨K, F, rfl, hf, rfl⟩, isS_dS ns, isF_dF _, by rw [List.length_map]; omega, ?_⟩) (iTuple rfl))
    rw [zip_pairs]
/-! ### trimmed -/
def trStep (needed : FM) (s : Hang × FM) (p : Str × KS) : Hang × FM := if p.2 ∈ needed ∧ p.2 ∉ s.2 then (s.1 ++ [p], s.2 ++ [p.2]) else s
theorem trStep_go (needed : FM) : ∀ (l : Hang) (s : Hang × FM), (l.foldl (trStep needed) s).1 = s.1 ++ trimGo needed s.2 l
  | [], s => by simp [trimGo]
  | p :: l, s => by
    have e : trimGo needed s.2 (p :: l) = if p.2 ∈ needed ∧ p.2 ∉ s.2 then p :: trimGo needed (s.2 ++ [p.2]) l else trimGo needed s.2 l := rfl
    rw [List.foldl_cons, trStep_go needed l, e]
    unfold trStep
    by_cases c : p.2 ∈ needed ∧ p.2 ∉ s.2
    · rw [if_pos c, if_pos c, List.append_assoc]; rfl
    · rw [if_neg c, if_neg c]
theorem trStep_len (needed : FM) : ∀ (l : Hang) (s : Hang × FM), (l.foldl (trStep needed) s).1.length ≤ s.1.length + l.length ∧ (l.foldl (trStep needed) s).2.length ≤ s.2.length + l.length
  | [], s => ⟨Nat.le_refl _, Nat.le_refl _⟩
  | p :: l, s => by
    obtain ⟨h1, h2⟩ := trStep_len needed l (trStep needed s p)
    rw [List.foldl_cons, List.length_cons]
    have : (trStep needed s p).1.length ≤ s.1.length + 1 ∧ (trStep needed s p).2.length ≤ s.2.length + 1 := by
      unfold trStep
      split
      · rw [List.length_append, List.length_append]; exact ⟨Nat.le_refl _, Nat.le_refl _⟩
      · exact ⟨Nat.le_succ _, Nat.le_succ _⟩
    omega
def ph_trimmed : Phi := fun ds z => ∃ hang, ds = [hangD hang] ∧ Few (hang.map (·.2)) ∧ z = hangD (trimP hang)
theorem sem_trimmed (ds : List PyData) (z : PyData) (h : ph_trimmed ds z) : w_trimmed ph_least_sets ph_tupled (fun _ => z = .none) (fun y => y = z) (startE ["hanging", "needed", "found", "seen", "lock", "holders", "own"] ds) := by
  obtain ⟨hang, rfl, hf, rfl⟩ := h
  have hl : hang.length ≤ 100000 := by have := hf.len; rwa [List.length_map] at this
  refine ⟨[.d (dF (leastP (hang.map (·.2)))), .o [], .o []], ⟨_, _, iCallN (i1 (d := lF (hang.map (·.2))) ?_) rfl ⟨_, _, rfl, isF_lF _, hf, rfl⟩, ⟨_, _, ⟨iNil, by decide⟩, ⟨_, _, ⟨iNil, by decide⟩, rfl, rfl⟩, rfl⟩, rfl⟩, rfl, ?_⟩
  · have q := iLst' (iLc (own := [6]) (b := .nm 6) (R := rBin phIx (rVar 6) (rK (.int 1))) (ρ := [some (hangD hang), none, none, none, none, none, none]) (I := rSeq (rCallN 1 ph_tupled (rCons (rVar 0) rNil))) (iSeq (iCallN (i1 rfl) rfl (iTupledH hang)) rfl) (LcRun.map (e := hP) (g := fun p => dS p.2) hang fun p _ => ⟨_, rfl, hP1 rfl⟩))
    unfold lF
    rw [List.map_map]
    exact q
  · generalize eN : leastP (hang.map (·.2)) = N
    refine ⟨_, iSeq (iCallN (i1 rfl) rfl (iTupledH hang)) rfl, fun i ε => ∃ v4 v5, ε = [some (.d (hangD hang)), some (.d (dF N)), some (.o (((hang.take i).foldl (trStep N) ([], [])).1.map hP)), some (.o (((hang.take i).foldl (trStep N) ([], [])).2.map dS)), v4, v5, none], ⟨none, none, rfl⟩, ?_, ?_⟩
    · rintro i hi ε1 ⟨v4, v5, rfl⟩
      rw [List.length_map] at hi
      rw [List.getElem_map]
      refine ⟨_, ⟨_, rfl, rfl, rfl⟩, ?_⟩
      show wIf _ _ _ (fun ε => ∃ v4 v5, ε = [some (.d (hangD hang)), some (.d (dF N)), some (.o (((hang.take (i + 1)).foldl (trStep N) ([], [])).1.map hP)), some (.o (((hang.take (i + 1)).foldl (trStep N) ([], [])).2.map dS)), v4, v5, none]) _ _
      rw [take_succ hi, List.foldl_append]
      obtain ⟨l1, l2⟩ := trStep_len N (hang.take i) ([], [])
      have lt : (hang.take i).length ≤ 100000 := by rw [List.length_take]; omega
      generalize (hang.take i).foldl (trStep N) ([], []) = s at l1 l2
      obtain ⟨f, sn⟩ := s
      generalize hang[i] = p
      have l1' : f.length ≤ 100000 := by have : f.length ≤ 0 + (hang.take i).length := l1; omega
      have l2' : sn.length ≤ 100000 := by have : sn.length ≤ 0 + (hang.take i).length := l2; omega
      show wIf _ _ _ (fun ε => ∃ v4 v5, ε = [some (.d (hangD hang)), some (.d (dF N)), some (.o ((trStep N (f, sn) p).1.map hP)), some (.o ((trStep N (f, sn) p).2.map dS)), v4, v5, none]) _ _
      by_cases c1 : p.2 ∈ N
      · by_cases c2 : p.2 ∈ sn
        · refine ⟨false, ⟨true, iBin rfl rfl (by have q := phIn_f (k := p.2) (isF_dF N); rwa [decide_eq_true c1] at q), .inl ⟨rfl, iBin rfl rfl (by have q := phNotIn_f (k := p.2) (isF_lF sn); rwa [decide_eq_true c2] at q)⟩⟩, .inr ⟨rfl, some (.d (.str p.1)), some (.d (dS p.2)), ?_⟩⟩
          unfold trStep
          rw [if_neg (fun z => z.2 c2)]; rfl
        · refine ⟨true, ⟨true, iBin rfl rfl (by have q := phIn_f (k := p.2) (isF_dF N); rwa [decide_eq_true c1] at q), .inl ⟨rfl, iBin rfl rfl (by have q := phNotIn_f (k := p.2) (isF_lF sn); rwa [decide_eq_false c2] at q)⟩⟩, .inl ⟨rfl, ?_⟩⟩
          refine ⟨_, _, rfl, iTup (i2 rfl rfl) (by show 2 ≤ 1000000; decide), by rw [List.length_map]; show f.length < 1000000; omega, ?_⟩
          refine ⟨_, _, rfl, rfl, by rw [List.length_map]; show sn.length < 1000000; omega, some (.d (.str p.1)), some (.d (dS p.2)), ?_⟩
          unfold trStep
          rw [if_pos ⟨c1, c2⟩, List.map_append, List.map_append]; rfl
      · refine ⟨false, ⟨false, iBin rfl rfl (by have q := phIn_f (k := p.2) (isF_dF N); rwa [decide_eq_false c1] at q), .inr ⟨rfl, rfl⟩⟩, .inr ⟨rfl, some (.d (.str p.1)), some (.d (dS p.2)), ?_⟩⟩
        unfold trStep
        rw [if_neg (fun z => c1 z.1)]; rfl
    · rintro ε1 ⟨v4, v5, rfl⟩
      rw [List.length_map, List.take_length, trStep_go, eN.symm]
      exact iRet (iCall (i1 rfl) (iTuple rfl))
end Vk

/-! ## VkSem4 -/
set_option Elab.async false
set_option linter.all false
set_option maxRecDepth 100000
set_option maxHeartbeats 1000000
/-! What the defs hand back, over data (4): losses, committees. -/
namespace Vk
open PySem PySem.Spec PyProof.Rows L2 LamX StX
/-! ### keys_without, lost, left_in, behind -/
def ph_keys_without : Phi := fun ds z => ∃ K F e s, ds = [vD K F, e] ∧ isS e s ∧ z = dS (cut K s)
theorem lc_cut {i : Nat} {ρ : DEnv} {R : RE} (own : List Nat) {xs s : KS} {C : RB} (hC : ∀ x ∈ xs, C (ρ.set i (some (.str x))) (!decide (x ∈ s))) (hR : ∀ x ∈ xs, R (ρ.set i (some (.str x))) (.str x)) : LcRun (.nm i) C R ρ (xs.map .str) ((cut xs s).map .str) :=
  LcRun.of (e := PyData.str) (p := fun x => !decide (x ∈ s)) (g := PyData.str) xs fun x hx => ⟨_, rfl, hC x hx, fun _ => hR x hx⟩
theorem lc_inter {i : Nat} {ρ : DEnv} {R : RE} {xs s : KS} {C : RB} (hC : ∀ x ∈ xs, C (ρ.set i (some (.str x))) (decide (x ∈ s))) (hR : ∀ x ∈ xs, R (ρ.set i (some (.str x))) (.str x)) : LcRun (.nm i) C R ρ (xs.map .str) ((inter xs s).map .str) :=
  LcRun.of (e := PyData.str) (p := fun x => decide (x ∈ s)) (g := PyData.str) xs fun x hx => ⟨_, rfl, hC x hx, fun _ => hR x hx⟩
theorem sem_keys_without (ds : List PyData) (z : PyData) (h : ph_keys_without ds z) : w_keys_without ph_tupled (fun _ => z = .none) (fun y => y = z) (startE ["vault", "some", "name"] ds) := by
  obtain ⟨K, F, e, s, rfl, he, rfl⟩ := h
  exact iRet (iCall (i1 (d := lS (cut K s)) (iLst' (iLc (iSeq (iCallN (i1 (vD0 rfl)) rfl (iTupledS (isS_dS K))) (isS_dS K)) (lc_cut [] (fun x _ => iBin rfl rfl (phNotIn_s he)) fun x _ => rfl)))) (iTuple rfl))
def ph_lost : Phi := fun ds z => ∃ K F e s, ds = [vD K F, e] ∧ isS e s ∧ (∀ x ∈ s, x ∈ K) ∧ (∀ k ∈ F, k.length ≤ 1000) ∧ Few ((F.filter fun own => !meetB s own).map sset) ∧ z = vD (cut K s) (lostF F s)
theorem sem_lost (ds : List PyData) (z : PyData) (h : ph_lost ds z) : w_lost ph_check_keys ph_tupled ph_least_vault ph_keys_without (fun _ => z = .none) (fun y => y = z) (startE ["vault", "some", "near", "own", "name"] ds) := by
  obtain ⟨K, F, e, s, rfl, he, hs, hk, hf, rfl⟩ := h
  refine ⟨⟨.none, iCallN (i2 rfl rfl) rfl ⟨K, F, e, s, rfl, he, hs, rfl⟩⟩, ?_⟩
  refine ⟨lF (F.filter fun own => !meetB s own), ?_, ?_⟩
  · refine iLst' (iLc (iSeq (iCallN (i1 (vD1 rfl)) rfl (iTupledF (isF_dF F))) (isF_dF F)) (LcRun.of (e := dS) (p := fun own => !meetB s own) (g := dS) F fun o _ => ⟨_, rfl, ?_, fun _ => rfl⟩))
    show rOf _ _ (!!meetB s o)
    rw [Bool.not_not]
    exact iCall (i1 (iLst' (iLc (iSeq rfl he) (LcRun.map (g := fun x => .bool (decide (x ∈ o))) s fun x _ => ⟨_, rfl, iBin rfl rfl (phIn_s (isS_dS o))⟩)))) (iAnyM _ _)
  · exact iRet (iCallN (i2 (iCallN (i2 rfl rfl) rfl ⟨K, F, e, s, rfl, he, rfl⟩) rfl) rfl ⟨_, _, cut K s, F.filter fun own => !meetB s own, rfl, isS_dS _, isSs_F (isF_lF _), fun k hk' => hk k (List.mem_filter.mp hk').1, hf, rfl⟩)
def ph_left_in : Phi := fun ds z => ∃ K F e s, ds = [vD K F, e] ∧ isS e s ∧ (∀ x ∈ s, x ∈ K) ∧ (∀ k ∈ F, k.length ≤ 1000) ∧ Few ((F.map fun own => cut own s).map sset) ∧ z = vD (cut K s) (leftF F s)
theorem cut_len (a s : KS) : (cut a s).length ≤ a.length := List.length_filter_le _ _
theorem sem_left_in (ds : List PyData) (z : PyData) (h : ph_left_in ds z) : w_left_in ph_check_keys ph_tupled ph_least_vault ph_keys_without (fun _ => z = .none) (fun y => y = z) (startE ["vault", "some", "near", "own", "name"] ds) := by
  obtain ⟨K, F, e, s, rfl, he, hs, hk, hf, rfl⟩ := h
  refine ⟨⟨.none, iCallN (i2 rfl rfl) rfl ⟨K, F, e, s, rfl, he, hs, rfl⟩⟩, ?_⟩
  refine ⟨.list (F.map fun own => lS (cut own s)), ?_, ?_⟩
  · exact iLst' (iLc (iSeq (iCallN (i1 (vD1 rfl)) rfl (iTupledF (isF_dF F))) (isF_dF F)) (LcRun.map (e := dS) (g := fun own => lS (cut own s)) F fun o _ => ⟨_, rfl, iLst' (iLc (iSeq rfl (isS_dS o)) (lc_cut [] (fun x _ => iBin rfl rfl (phNotIn_s he)) fun x _ => rfl))⟩))
  · refine iRet (iCallN (i2 (iCallN (i2 rfl rfl) rfl ⟨K, F, e, s, rfl, he, rfl⟩) rfl) rfl ⟨_, _, cut K s, F.map fun own => cut own s, rfl, isS_dS _, isSs_map (f := fun own => lS (cut own s)) rfl (fun o _ => isS_lS _), fun k hk' => ?_, hf, rfl⟩)
    obtain ⟨o, ho, rfl⟩ := List.mem_map.mp hk'
    exact Nat.le_trans (cut_len o s) (hk o ho)
def ph_behind : Phi := fun ds z => ∃ K F g s, ds = [vD K F, .tuple [dS g, dS s]] ∧ g.length + s.length ≤ 1000 ∧ (∀ x ∈ g, x ∈ K) ∧ (∀ x ∈ s, x ∈ K ∧ x ∉ g) ∧ (∀ k ∈ F, k.length ≤ 1000) ∧ Few ((F.filter fun own => !meetB g own).map sset) ∧ Few (((lostF F g).map fun own => cut own s).map sset) ∧ (∀ k ∈ lostF F g, k.length ≤ 1000) ∧ z = vD (cut (cut K g) s) (leftF (lostF F g) s)
theorem sem_behind (ds : List PyData) (z : PyData) (h : ph_behind ds z) : w_behind ph_tupled ph_check_keys ph_left_in ph_lost (fun _ => z = .none) (fun y => y = z) (startE ["vault", "loss", "gone", "stays"] ds) := by
  obtain ⟨K, F, g, s, rfl, hl, hg, hs, hk, hf, hf2, hk2, rfl⟩ := h
  have ht : ph_tupled [.tuple [dS g, dS s]] (.tuple [dS g, dS s]) := by
    have q := iTupled (dd_pair (dd_dS g (n := 7)) (dd_dS s (n := 7)))
    rw [tup_seq (d := .tuple [dS g, dS s]) rfl] at q
    simp only [List.map_cons, List.map_nil, tup_dS] at q
    exact q
  refine ⟨_, _, iCallN (i1 rfl) rfl ht, ⟨_, rfl, rfl, rfl⟩, ?_⟩
  refine ⟨⟨.none, iCallN (i2 rfl (iLst (iStar rfl (isS_dS g) (iStar rfl (isS_dS s) iNil)) (by rw [List.append_nil, List.length_append, List.length_map, List.length_map]; omega))) rfl ⟨K, F, _, g ++ s, rfl, ?_, fun x hx => ?_, rfl⟩⟩, ?_⟩
  · show some (g.map PyData.str ++ (s.map PyData.str ++ [])) = _
    rw [List.append_nil, List.map_append]
  · rcases List.mem_append.mp hx with h | h
    · exact hg x h
    · exact (hs x h).1
  · exact iRet (iCallN (i2 (iCallN (i2 rfl rfl) rfl ⟨K, F, _, g, rfl, isS_dS g, hg, hk, hf, rfl⟩) rfl) rfl ⟨cut K g, lostF F g, _, s, rfl, isS_dS s, fun x hx => mem_cut.2 (hs x hx), hk2, hf2, rfl⟩)
/-! ### mattering, parts_by -/
def matP (K : KS) (F : FM) : KS := K.filter fun x => F.any fun o => decide (x ∈ o)
def ph_mattering : Phi := fun ds z => ∃ K F, ds = [vD K F] ∧ z = dS (matP K F)
theorem sem_mattering (ds : List PyData) (z : PyData) (h : ph_mattering ds z) : w_mattering ph_tupled (fun _ => z = .none) (fun y => y = z) (startE ["vault", "name", "own"] ds) := by
  obtain ⟨K, F, rfl, rfl⟩ := h
  refine iRet (iCall (i1 (d := lS (matP K F)) (iLst' (iLc (iSeq (iCallN (i1 (vD0 rfl)) rfl (iTupledS (isS_dS K))) (isS_dS K)) (LcRun.of (e := PyData.str) (p := fun x => F.any fun o => decide (x ∈ o)) (g := PyData.str) K fun x _ => ⟨_, rfl, ?_, fun _ => rfl⟩)))) (iTuple rfl))
  exact iCall (i1 (iLst' (iLc (iSeq (vD1 rfl) (isF_dF F)) (LcRun.map (e := dS) (g := fun o => .bool (decide (x ∈ o))) F fun o _ => ⟨_, rfl, iBin rfl rfl (phIn_s (isS_dS o))⟩)))) (iAnyM _ _)
def rowD (s o : KS) : PyData := .tuple [lS (cut o s), lS (inter o s)]
def rowsP (F : FM) (s : KS) : FM := F.filter fun o => meetB o s
def ph_parts_by : Phi := fun ds z => ∃ d e F s, ds = [d, e] ∧ isF d F ∧ isS e s ∧ z = .list ((rowsP F s).map (rowD s))
theorem inter_len (o s : KS) : decide (0 < ((inter o s).length : Int)) = meetB o s := by
  apply Bool.eq_iff_iff.mpr
  rw [decide_eq_true_eq, meetB_iff]
  constructor
  · intro h
    have h' : 0 < (inter o s).length := by omega
    obtain ⟨x, hx⟩ := List.exists_mem_of_length_pos h'
    obtain ⟨h1, h2⟩ := mem_inter.1 hx
    exact ⟨x, h1, h2⟩
  · rintro ⟨x, h1, h2⟩
    have := List.length_pos_of_mem (mem_inter.2 ⟨h1, h2⟩)
    omega
theorem sem_parts_by (ds : List PyData) (z : PyData) (h : ph_parts_by ds z) : w_parts_by (fun _ => z = .none) (fun y => y = z) (startE ["openers", "some", "rows", "own", "outside", "inside", "name"] ds) := by
  obtain ⟨d, e, F, s, rfl, hd, he, rfl⟩ := h
  refine ⟨.list (F.map (rowD s)), ?_, ?_⟩
  · exact iLst' (iLc (iSeq rfl hd) (LcRun.map (e := dS) (g := rowD s) F fun o _ => ⟨_, rfl, iTup (i2 (iLst' (iLc (iSeq rfl (isS_dS o)) (lc_cut [] (fun x _ => iBin rfl rfl (phNotIn_s he)) fun x _ => rfl))) (iLst' (iLc (iSeq rfl (isS_dS o)) (lc_inter (fun x _ => iBin rfl rfl (phIn_s he)) fun x _ => rfl)))) (by show 2 ≤ 1000000; decide)⟩))
  · refine iRet (iLst' (iLc (iSeq rfl rfl) (LcRun.of (e := rowD s) (p := fun o => meetB o s) (g := rowD s) F fun o _ => ⟨_, ⟨_, rfl, rfl, rfl⟩, ?_, fun _ => iTup (i2 rfl rfl) (by show 2 ≤ 1000000; decide)⟩)))
    have q := iLen (isS_lS (inter o s))
    rw [List.length_map] at q
    refine iBin (iCall (i1 rfl) q) rfl ⟨_, _, rfl, rfl, ?_⟩
    show PyData.bool (meetB o s) = .bool (decide (0 < ((inter o s).length : Int)))
    rw [inter_len]
/-! ### against -/
def badD (s A B : KS) : PyData := .tuple [dS (sset (cut A s ++ inter A s)), dS (sset (cut B s ++ inter B s))]
def agRow (F : FM) (s : KS) (rows : FM) (A : KS) : Option PyData := rows.findSome? fun B => if opB F (cut A s ++ inter B s) then none else some (badD s A B)
def agP (F : FM) (s : KS) : PyData := ((rowsP F s).findSome? fun A => agRow F s (rowsP F s) A).getD .none
theorem agP_none {F : FM} {s : KS} (h : comB F s = true) : agP F s = .none := by
  unfold agP
  rw [List.findSome?_eq_none_iff.mpr fun A hA => ?_]
  · rfl
  · refine List.findSome?_eq_none_iff.mpr fun B hB => ?_
    obtain ⟨a1, a2⟩ := List.mem_filter.mp hA
    obtain ⟨b1, b2⟩ := List.mem_filter.mp hB
    rw [if_pos (comB_iff.1 h A a1 a2 B b1 b2)]
theorem agP_some {F : FM} {s : KS} (h : comB F s = false) : agP F s ≠ .none := by
  intro z
  have hn : ¬ ((rowsP F s).findSome? fun A => agRow F s (rowsP F s) A) = none := fun e => by
    have : comB F s = true := comB_iff.2 fun A a1 a2 B b1 b2 => Classical.byContradiction fun q => by
      have h1 := List.findSome?_eq_none_iff.mp e A (List.mem_filter.mpr ⟨a1, a2⟩)
      have h2 := List.findSome?_eq_none_iff.mp h1 B (List.mem_filter.mpr ⟨b1, b2⟩)
      rw [if_neg q] at h2
      cases h2
    rw [this] at h
    cases h
  cases e : ((rowsP F s).findSome? fun A => agRow F s (rowsP F s) A) with
  | none => exact hn e
  | some y =>
    obtain ⟨A, _, hA⟩ := List.exists_of_findSome?_eq_some e
    obtain ⟨B, _, hB⟩ := List.exists_of_findSome?_eq_some hA
    unfold agP at z
    rw [e] at z
    have z' : y = .none := z
    subst z'
    split at hB <;> cases hB
theorem findSome_at {α β : Type} {f : α → Option β} {l : List α} {i : Nat} {y : β} (h : i < l.length) (h0 : ∀ j (hj : j < i), f (l[j]'(by omega)) = none) (hi : f l[i] = some y) : l.findSome? f = some y := by
  refine List.findSome?_eq_some_iff.mpr ⟨l.take i, l[i], l.drop (i + 1), ?_, hi, fun x hx => ?_⟩
  · rw [← List.drop_eq_getElem_cons h, List.take_append_drop]
  · obtain ⟨j, hj, rfl⟩ := List.getElem_of_mem hx
    rw [List.length_take] at hj
    rw [List.getElem_take]
    exact h0 j (by omega)
theorem allS_mem {K a : KS} (hK : Cn K) (ha : Cn a) (h : ∀ x ∈ a, x ∈ K) : a ∈ allS K := by
  refine mem_isort.2 (mem_subsF ?_)
  have e : a = K.filter fun x => decide (x ∈ a) := cn_ext ha (cn_filter hK _) fun x => by
    rw [List.mem_filter, decide_eq_true_eq]
    exact ⟨fun hx => ⟨h x hx, hx⟩, fun hx => hx.2⟩
  rw [e]
  exact List.filter_sublist
theorem tab_find {K : KS} {F : FM} {k : KS} (h : k ∈ allS K) : ((tabP K F).find? fun p => decide (p.1 = k)).map (·.2) = some (opB F k) := by
  unfold tabP
  have : ∀ l : FM, k ∈ l → ((l.map fun lot => (lot, opB F lot)).find? fun p => decide (p.1 = k)).map (·.2) = some (opB F k) := by
    intro l
    induction l with
    | nil => intro h; cases h
    | cons a l ih =>
      intro h
      rw [List.map_cons, List.find?_cons]
      by_cases e : a = k
      · subst e; simp
      · simp only [e, decide_false]
        rcases List.mem_cons.mp h with h | h
        · exact absurd h.symm e
        · exact ih h
  exact this _ h
theorem opB_mem {F : FM} {a b : KS} (h : ∀ x, x ∈ a ↔ x ∈ b) : opB F a = opB F b := by
  apply Bool.eq_iff_iff.mpr
  rw [opB_iff, opB_iff]
  exact exists_congr fun o => and_congr_right fun _ => forall_congr' fun x => imp_congr_right fun _ => h x
def ph_against : Phi := fun ds z => ∃ K F e s, ds = [vD K F, e, tabOf K F] ∧ isS e s ∧ Cn K ∧ K.length ≤ 10 ∧ (∀ o ∈ F, ∀ x ∈ o, x ∈ K) ∧ (∀ o ∈ F, o.length ≤ 1000) ∧ z = agP F s
theorem sem_against (ds : List PyData) (z : PyData) (h : ph_against ds z) : w_against ph_parts_by ph_set_of (fun _ => z = .none) (fun y => y = z) (startE ["vault", "some", "table", "rows", "outside", "inside", "far", "mate"] ds) := by
  obtain ⟨K, F, e, s, rfl, he, hK, hl, hin, hk, rfl⟩ := h
  refine ⟨.list ((rowsP F s).map (rowD s)), iCallN (i2 (vD1 rfl) rfl) rfl ⟨_, _, F, s, rfl, isF_dF F, he, rfl⟩, ?_⟩
  generalize eR : rowsP F s = R
  have hR : ∀ A ∈ R, A ∈ F := fun A hA => by rw [← eR] at hA; exact (List.mem_filter.mp hA).1
  refine ⟨_, iSeq rfl rfl, fun i ε => (∃ v4 v5 v6 v7, ε = [some (.d (vD K F)), some (.d e), some (.d (tabOf K F)), some (.d (.list (R.map (rowD s)))), v4, v5, v6, v7]) ∧ ∀ j (hj : j < i) (hj2 : j < R.length), agRow F s R R[j] = none, ⟨⟨none, none, none, none, rfl⟩, fun j hj => by omega⟩, ?_, ?_⟩
  · rintro i hi ε1 ⟨⟨v4, v5, v6, v7, rfl⟩, h0⟩
    rw [List.length_map] at hi
    rw [List.getElem_map]
    refine ⟨_, ⟨_, rfl, rfl, rfl⟩, ?_⟩
    have hA := hR _ (List.getElem_mem hi)
    have hAl := hk _ hA
    refine ⟨_, iSeq rfl rfl, fun j ε => (∃ v6 v7, ε = [some (.d (vD K F)), some (.d e), some (.d (tabOf K F)), some (.d (.list (R.map (rowD s)))), some (.d (lS (cut R[i] s))), some (.d (lS (inter R[i] s))), v6, v7]) ∧ ∀ j' (hj : j' < j) (hj2 : j' < R.length), opB F (cut R[i] s ++ inter R[j'] s) = true, ⟨⟨v6, v7, rfl⟩, fun j hj => by omega⟩, ?_, ?_⟩
    · rintro j hj ε2 ⟨⟨v6, v7, rfl⟩, h1⟩
      rw [List.length_map] at hj
      rw [List.getElem_map]
      refine ⟨_, ⟨_, rfl, rfl, rfl⟩, ?_⟩
      have hB := hR _ (List.getElem_mem hj)
      have hBl := hk _ hB
      have cl : ∀ (a b : KS), a.length ≤ 1000 → b.length ≤ 1000 → (cut a s ++ inter b s).length ≤ 4000 := fun a b h h' => by
        rw [List.length_append]
        have := cut_len a s
        have : (inter b s).length ≤ b.length := List.length_filter_le _ _
        omega
      have so : ∀ {ρ : DEnv} {ia ib : Nat} (a b : KS), a.length ≤ 1000 → b.length ≤ 1000 → ρ[ia]? = some (some (lS (cut a s))) → ρ[ib]? = some (some (lS (inter b s))) → rCallN 1 ph_set_of (rCons (rLst (rStar (rVar ia) (rStar (rVar ib) rNil))) rNil) ρ (dS (sset (cut a s ++ inter b s))) := fun {ρ ia ib} a b ha hb h1 h2 => by
        have := cl a b ha hb
        refine iCallN (i1 (iLst (iStar h1 (isS_lS _) (iStar h2 (isS_lS _) iNil)) (by rw [List.append_nil, List.length_append, List.length_map, List.length_map, ← List.length_append]; omega))) rfl ⟨_, rfl, .inl ⟨cut a s ++ inter b s, ?_, this, rfl⟩⟩
        show some ((cut a s).map PyData.str ++ ((inter b s).map PyData.str ++ [])) = _
        rw [List.append_nil, List.map_append]
      have hmem : sset (cut R[i] s ++ inter R[j] s) ∈ allS K := allS_mem hK (cn_sset _) fun x hx => by
        rcases List.mem_append.mp (sset_mem.1 hx) with q | q
        · exact hin _ hA x (mem_cut.1 q).1
        · exact hin _ hB x (mem_inter.1 q).1
      have eop : opB F (sset (cut R[i] s ++ inter R[j] s)) = opB F (cut R[i] s ++ inter R[j] s) := opB_mem fun x => sset_mem
      refine ⟨!opB F (cut R[i] s ++ inter R[j] s), ?_, ?_⟩
      · show rOf _ _ (!!opB F (cut R[i] s ++ inter R[j] s))
        rw [Bool.not_not]
        exact iBin rfl (so R[i] R[j] hAl hBl rfl rfl) (.inr ⟨tabP K F, _, _, rfl, tabP_ne K F, rfl, by rw [tab_find hmem, eop], rfl⟩)
      · cases c : opB F (cut R[i] s ++ inter R[j] s) with
        | true =>
          refine .inr ⟨rfl, ⟨_, _, rfl⟩, fun j' hj' hj2 => ?_⟩
          by_cases ej : j' < j
          · exact h1 j' ej hj2
          · have : j' = j := by omega
            subst this
            exact c
        | false =>
          refine .inl ⟨rfl, badD s R[i] R[j], iTup (i2 (so R[i] R[i] hAl hAl rfl rfl) (so R[j] R[j] hBl hBl rfl rfl)) (by show 2 ≤ 1000000; decide), ?_⟩
          have e1 : agRow F s R R[i] = some (badD s R[i] R[j]) := findSome_at hj (fun j' hj' => by rw [if_pos (h1 j' hj' (by omega))]) (by rw [c]; rfl)
          have e2 : (R.findSome? fun A => agRow F s R A) = some (badD s R[i] R[j]) := findSome_at hi (fun j' hj' => h0 j' hj' (by omega)) e1
          show badD s R[i] R[j] = agP F s
          unfold agP
          rw [eR, e2]; rfl
    · rintro ε2 ⟨⟨v6, v7, rfl⟩, h1⟩
      refine ⟨⟨_, _, _, _, rfl⟩, fun j hj hj2 => ?_⟩
      by_cases ej : j < i
      · exact h0 j ej hj2
      · have : j = i := by omega
        subst this
        refine List.findSome?_eq_none_iff.mpr fun B hB => ?_
        obtain ⟨j', hj', rfl⟩ := List.getElem_of_mem hB
        rw [if_pos (h1 j' (by rw [List.length_map]; exact hj') hj')]
  · rintro ε1 ⟨⟨v4, v5, v6, v7, rfl⟩, h0⟩
    have e : agP F s = .none := by
      unfold agP
      rw [eR, List.findSome?_eq_none_iff.mpr fun A hA => ?_]
      · rfl
      · obtain ⟨j', hj', rfl⟩ := List.getElem_of_mem hA
        exact h0 j' (by rw [List.length_map]; exact hj') hj'
    rw [e]
    exact iRet rfl
/-! ### committees -/
def comP (K : KS) (F : FM) : FM := (allS (matP K F)).filter fun lot => decide (0 < (lot.length : Int)) && comB F lot
def ph_committees : Phi := fun ds z => ∃ K F, ds = [vD K F] ∧ Cn K ∧ K.length ≤ 10 ∧ (∀ o ∈ F, ∀ x ∈ o, x ∈ K) ∧ (∀ o ∈ F, o.length ≤ 1000) ∧ z = lF (comP K F)
theorem sem_committees (ds : List PyData) (z : PyData) (h : ph_committees ds z) : w_committees ph_open_table ph_subsets ph_mattering ph_against (fun _ => z = .none) (fun y => y = z) (startE ["vault", "table", "lot"] ds) := by
  obtain ⟨K, F, rfl, hK, hl, hin, hk, rfl⟩ := h
  refine ⟨tabOf K F, iCallN (i1 rfl) rfl ⟨K, F, rfl, hK.1, hl, rfl⟩, ?_⟩
  have hm : (matP K F).length ≤ 10 := Nat.le_trans (List.length_filter_le _ _) hl
  refine iRet (iLst' (iLc (iSeq (iCallN (i1 (iCallN (i1 rfl) rfl ⟨K, F, rfl, rfl⟩)) rfl ⟨_, matP K F, rfl, isS_dS _, hm, rfl⟩) (isF_lF _)) (LcRun.of (e := dS) (p := fun lot => decide (0 < (lot.length : Int)) && comB F lot) (g := dS) (allS (matP K F)) fun lot _ => ⟨_, rfl, ?_, fun _ => rfl⟩)))
  have q := iLen (isS_dS lot)
  rw [List.length_map] at q
  refine ⟨decide (0 < (lot.length : Int)), iBin (iCall (i1 rfl) q) rfl ⟨_, _, rfl, rfl, rfl⟩, ?_⟩
  cases c : decide (0 < (lot.length : Int)) with
  | false => exact .inr ⟨rfl, rfl⟩
  | true =>
    rw [Bool.true_and]
    refine .inl ⟨rfl, agP F lot, iCallN (iCons rfl (i2 rfl rfl)) rfl ⟨K, F, _, lot, rfl, isS_dS lot, hK, hl, hin, hk, rfl⟩, ?_⟩
    cases cm : comB F lot with
    | true => exact .inl ⟨agP_none cm, rfl⟩
    | false => exact .inr ⟨agP_some cm, rfl⟩
end Vk

/-! ## VkSem5 -/
set_option Elab.async false
set_option linter.all false
set_option maxRecDepth 100000
set_option maxHeartbeats 1000000
/-! What the defs hand back, over data (5): peoples, houses. -/
namespace Vk
open PySem PySem.Spec PyProof.Rows L2 LamX StX
/-! ### peoples_vault -/
/-- who holds the key -/
def holdOf (K hs : KS) (k : Str) : Str := (((K.zip hs).find? fun p => decide (p.1 = k)).map (·.2)).getD Str.empty
theorem look_hold : ∀ {K hs : KS} {k : Str}, K.length = hs.length → k ∈ K → lookD K (hs.map PyData.str) k = some (.str (holdOf K hs k))
  | c :: K, [], k, h, _ => by cases h
  | c :: K, x :: hs, k, h, hk => by
    unfold lookD holdOf
    rw [List.map_cons, List.zip_cons_cons, List.zip_cons_cons, List.find?_cons, List.find?_cons]
    by_cases e : c = k
    · subst e; simp
    · simp only [e, decide_false]
      have ih := look_hold (k := k) (Nat.succ.inj h) ((List.mem_cons.mp hk).resolve_left fun z => e z.symm)
      unfold lookD holdOf at ih
      exact ih
def ph_peoples_vault : Phi := fun ds z => ∃ K F e hs, ds = [vD K F, e] ∧ isS e hs ∧ hs.length = K.length ∧ K.Nodup ∧ K.length ≤ 10 ∧ (∀ o ∈ F, ∀ x ∈ o, x ∈ K) ∧ (∀ k ∈ F, k.length ≤ 1000) ∧ Few ((F.map fun o => o.map (holdOf K hs)).map sset) ∧
  z = vD (sset hs) (lsF (F.map fun o => o.map (holdOf K hs)))
theorem sem_peoples_vault (ds : List PyData) (z : PyData) (h : ph_peoples_vault ds z) : w_peoples_vault ph_least_vault ph_set_of (fun _ => z = .none) (fun y => y = z) (startE ["vault", "holders", "table", "own", "key"] ds) := by
  obtain ⟨K, F, e, hs, rfl, he, hl, hn, hK, hin, hk, hf, rfl⟩ := h
  refine ⟨.dict ((K.map PyData.str).zip (hs.map .str)), ⟨dS K, e, K, hs.map .str, vD0 rfl, rfl, isS_dS K, he, by rw [List.length_map, hl], hn, by omega, rfl⟩, ?_⟩
  refine iRet (iCallN (i2 (iCallN (i1 rfl) rfl ⟨e, rfl, .inl ⟨hs, he, by omega, rfl⟩⟩) (d := dS (sset hs)) (e := .list (F.map fun o => lS (o.map (holdOf K hs)))) ?_) rfl ⟨_, _, sset hs, F.map fun o => o.map (holdOf K hs), rfl, isS_dS _, isSs_map (f := fun o => lS (o.map (holdOf K hs))) rfl (fun o _ => isS_lS _), fun k hk' => ?_, hf, rfl⟩)
  · refine iLst' (iLc (iSeq (vD1 rfl) (isF_dF F)) (LcRun.map (e := dS) (g := fun o => lS (o.map (holdOf K hs))) F fun o ho => ⟨_, rfl, ?_⟩))
    have q := iLst' (iLc (own := [4]) (b := .nm 4) (I := rSeq (rVar 3)) (R := rBin phGet (rVar 2) (rVar 4)) (ρ := [some (vD K F), some e, some (.dict ((K.map PyData.str).zip (hs.map .str))), some (dS o), none]) (iSeq rfl (isS_dS o))
      (LcRun.map (e := PyData.str) (g := fun x => .str (holdOf K hs x)) o fun x hx => ⟨_, rfl, iBin rfl rfl (.inl ⟨K, hs.map .str, x, rfl, by rw [List.length_map, hl], rfl, look_hold hl.symm (hin o ho x hx)⟩)⟩))
    have e2 : PyData.list (o.map fun x => .str (holdOf K hs x)) = lS (o.map (holdOf K hs)) := by unfold lS; rw [List.map_map]; rfl
    rw [e2] at q
    exact q
  · obtain ⟨o, ho, rfl⟩ := List.mem_map.mp hk'
    rw [List.length_map]; exact hk o ho
/-! ### ways_of -/
theorem waysP_take {L : List FM} {i : Nat} (h : i < L.length) : waysP (L.take (i + 1)) = (waysP (L.take i)).flatMap fun own => L[i].map fun more => own ++ more := by
  unfold waysP; rw [take_succ h, List.foldl_append]; rfl
def ph_ways_of : Phi := fun ds z => ∃ d L, ds = [d] ∧ seqOf d = some (L.map dF) ∧ (∀ i, i ≤ L.length → (waysP (L.take i)).length ≤ 1000 ∧ ∀ k ∈ waysP (L.take i), k.length ≤ 1000) ∧ z = lF (waysP L)
theorem sem_ways_of (ds : List PyData) (z : PyData) (h : ph_ways_of ds z) : w_ways_of (fun _ => z = .none) (fun y => y = z) (startE ["lots", "found", "lot", "own", "more"] ds) := by
  obtain ⟨d, L, rfl, hd, hb, rfl⟩ := h
  refine ⟨lF [[]], iLst (i1 (iTup iNil (by decide))) (by decide), ?_⟩
  refine ⟨_, iSeq rfl hd, fun i ε => ∃ v2, ε = [some (.d d), some (.d (lF (waysP (L.take i)))), v2, none, none], ⟨none, rfl⟩, ?_, ?_⟩
  · rintro i hi ε1 ⟨v2, rfl⟩
    rw [List.length_map] at hi
    rw [List.getElem_map]
    obtain ⟨b1, b2⟩ := hb (i + 1) (by omega)
    rw [waysP_take hi] at b1 b2
    refine ⟨_, rfl, ?_⟩
    show wSet _ _ (fun ε => ∃ v2, ε = [some (.d d), some (.d (lF (waysP (L.take (i + 1))))), v2, none, none]) _ _
    rw [waysP_take hi]
    generalize waysP (L.take i) = B at b1 b2
    generalize L[i] = G at b1 b2
    have run := Lc2Run.of (b := .nm 3) (C := rYes) (I1 := rSeq (rVar 2)) (b1 := .nm 4) (C1 := rYes) (R := rTup (rStar (rVar 3) (rStar (rVar 4) rNil))) (ρ := [some d, some (lF B), some (dF G), none, none]) (e := dS) (p := fun _ => true) (g := fun own => G.map fun more => dS (own ++ more)) B fun own ho =>
      ⟨_, rfl, rfl, fun _ => ⟨_, iSeq rfl (isF_dF G), LcRun.map (e := dS) (g := fun more => dS (own ++ more)) G fun more hm => ⟨_, rfl, by
        have hl := b2 (own ++ more) (List.mem_flatMap.mpr ⟨own, ho, List.mem_map.mpr ⟨more, hm, rfl⟩⟩)
        have q := iTup (A := rStar (rVar 3) (rStar (rVar 4) rNil)) (ρ := [some d, some (lF B), some (dF G), some (dS own), some (dS more)]) (iStar rfl (isS_dS own) (iStar rfl (isS_dS more) iNil)) (by rw [List.append_nil, List.length_append, List.length_map, List.length_map, ← List.length_append]; omega)
        rw [List.append_nil, ← List.map_append] at q
        exact q⟩⟩⟩
    have hfl : (B.filter fun _ => true) = B := List.filter_eq_self.mpr fun _ _ => rfl
    rw [hfl] at run
    refine ⟨lF (B.flatMap fun own => G.map fun more => own ++ more), ?_, some (.d (dF G)), rfl⟩
    refine ⟨_, ⟨_, iSeq rfl (isF_lF B), ?_, run⟩, ?_⟩
    · have e : (B.flatMap fun own => G.map fun more => dS (own ++ more)).length = (B.flatMap fun own => G.map fun more => own ++ more).length := by
        rw [List.length_flatMap, List.length_flatMap]
        congr 1
        exact List.map_congr_left fun a _ => by rw [List.length_map, List.length_map]
      rw [e]; omega
    · unfold lF
      rw [List.map_flatMap]
      congr 1
      congr 1
      funext own
      rw [List.map_map]; rfl
  · rintro ε1 ⟨v2, rfl⟩
    rw [List.length_map, List.take_length]
    exact iRet rfl
/-! ### house -/
def lotOf (F2 : FM) (tag : Str) (name : Str) : FM := if name = tag then F2 else [[name]]
theorem waysP_snoc (L : List FM) (G : FM) : waysP (L ++ [G]) = (waysP L).flatMap fun own => G.map fun more => own ++ more := by
  unfold waysP; rw [List.foldl_append]; rfl
theorem sum_const {α : Type} {f : α → Nat} {n : Nat} : ∀ {l : List α}, (∀ a ∈ l, f a = n) → (l.map f).sum = l.length * n
  | [], _ => by simp
  | a :: l, h => by
    rw [List.map_cons, List.sum_cons, h a List.mem_cons_self, sum_const fun b hb => h b (List.mem_cons_of_mem _ hb), List.length_cons, Nat.succ_mul]; omega
theorem ways_len {F2 : FM} {tag : Str} (o : KS) (h : o.Nodup) : (waysP (o.map (lotOf F2 tag))).length = if tag ∈ o then F2.length else 1 := by
  induction o using rev_ind with
  | h0 => simp [waysP]
  | hs l x ih =>
    obtain ⟨h1, _, h3⟩ := List.nodup_append.mp h
    have hx : x ∉ l := fun z => h3 x z x List.mem_cons_self rfl
    rw [List.map_append, List.map_cons, List.map_nil, waysP_snoc, List.length_flatMap, sum_const (n := (lotOf F2 tag x).length) fun a _ => by rw [List.length_map], ih h1]
    unfold lotOf
    by_cases e : x = tag
    · subst e
      rw [if_neg hx, if_pos rfl, if_pos (List.mem_append_right _ List.mem_cons_self), Nat.one_mul]
    · rw [if_neg e]
      have : tag ∈ l ++ [x] ↔ tag ∈ l := by
        rw [List.mem_append]
        exact ⟨fun z => z.resolve_right fun z => e (List.mem_singleton.mp z).symm, .inl⟩
      simp only [this, List.length_singleton, Nat.mul_one]
theorem ways_keys {F2 : FM} {tag : Str} {n : Nat} (hF : ∀ k ∈ F2, k.length ≤ n) (hn : 1 ≤ n) (o : KS) : ∀ w ∈ waysP (o.map (lotOf F2 tag)), w.length ≤ o.length * n := by
  induction o using rev_ind with
  | h0 => intro w hw; rw [List.mem_singleton.mp hw]; simp
  | hs l x ih =>
    intro w hw
    rw [List.map_append, List.map_cons, List.map_nil, waysP_snoc] at hw
    obtain ⟨own, ho, hw⟩ := List.mem_flatMap.mp hw
    obtain ⟨more, hm, rfl⟩ := List.mem_map.mp hw
    have := ih own ho
    have hml : more.length ≤ n := by
      unfold lotOf at hm
      split at hm
      · exact hF more hm
      · rw [List.mem_singleton.mp hm]; exact hn
    rw [List.length_append, List.length_append, List.length_singleton, Nat.add_mul, Nat.one_mul]
    omega
theorem ways_mem {F2 : FM} {tag : Str} (o : KS) : ∀ w ∈ waysP (o.map (lotOf F2 tag)), ∀ x ∈ w, (x ∈ o ∧ x ≠ tag) ∨ (tag ∈ o ∧ ∃ k ∈ F2, x ∈ k) := by
  induction o using rev_ind with
  | h0 => intro w hw x hx; rw [List.mem_singleton.mp hw] at hx; cases hx
  | hs l y ih =>
    intro w hw x hx
    rw [List.map_append, List.map_cons, List.map_nil, waysP_snoc] at hw
    obtain ⟨own, ho, hw⟩ := List.mem_flatMap.mp hw
    obtain ⟨more, hm, rfl⟩ := List.mem_map.mp hw
    rcases List.mem_append.mp hx with hx | hx
    · rcases ih own ho x hx with ⟨h1, h2⟩ | ⟨h1, h2⟩
      · exact .inl ⟨List.mem_append_left _ h1, h2⟩
      · exact .inr ⟨List.mem_append_left _ h1, h2⟩
    · unfold lotOf at hm
      split at hm
      · rename_i e
        exact .inr ⟨by rw [← e]; exact List.mem_append_right _ List.mem_cons_self, more, hm, hx⟩
      · rename_i e
        rw [List.mem_singleton.mp hm] at hx
        rw [List.mem_singleton.mp hx]
        exact .inl ⟨List.mem_append_right _ List.mem_cons_self, e⟩
theorem houseF_eq (F F2 : FM) (tag : Str) : houseF F F2 tag = F.flatMap fun o => waysP (o.map (lotOf F2 tag)) := rfl
def ph_tupF : PhiF := fun ds es => ∃ d xs, ds = [d] ∧ Dd 11 d ∧ seqOf d = some xs ∧ es = xs.map tup
structure HouseOk (K : KS) (F : FM) (tag : Str) (K2 : KS) (F2 : FM) : Prop where
  tagK : tag ∈ K
  nd : K.Nodup
  nd2 : K2.Nodup
  apart : ∀ x ∈ K, x ≠ tag → x ∉ K2
  len : K.length ≤ 100
  len2 : K2.length ≤ 100
  flen : F.length ≤ 100
  flen2 : F2.length ≤ 100
  cn : ∀ o ∈ F, o.Nodup ∧ o.length ≤ 100
  cn2 : ∀ o ∈ F2, o.length ≤ 9
  few : Few ((houseF F F2 tag).map sset)
def ph_house : Phi := fun ds z => ∃ K F tag K2 F2, ds = [vD K F, .tuple [.tuple [.str tag, vD K2 F2]]] ∧ HouseOk K F tag K2 F2 ∧ z = vD (sset (cut K [tag] ++ K2)) (lsF (houseF F F2 tag))
theorem tup_vD (K : KS) (F : FM) : tup (vD K F) = vD K F := by
  rw [tup_seq (d := vD K F) rfl]
  show PyData.tuple [tup (dS K), tup (dF F)] = _
  rw [tup_dS, tup_F (isF_dF F)]; rfl
theorem phKey1 {neg : Bool} {x tag : Str} {d : PyData} : phKey neg (.str x) (.dict (([tag].map PyData.str).zip [d])) (.bool (if neg then !decide (x ∈ [tag]) else decide (x ∈ [tag]))) := ⟨[tag], [d], x, rfl, rfl, by simp, rfl, rfl⟩
theorem sem_house (ds : List PyData) (z : PyData) (h : ph_house ds z) : w_house ph_tupF ph_check_keys ph_set_of ph_tupled ph_ways_of ph_least_vault (fun _ => z = .none) (fun y => y = z) (startE ["vault", "inners", "table", "names", "inner", "twice", "sets", "opener", "name", "key"] ds) := by
  obtain ⟨K, F, tag, K2, F2, rfl, O, rfl⟩ := h
  refine ⟨⟨.none, iCallN (i2 (d := vD K F) (e := .list [.str tag]) rfl ?_) rfl ⟨K, F, _, [tag], rfl, rfl, fun x hx => by rw [List.mem_singleton.mp hx]; exact O.tagK, rfl⟩⟩, ?_⟩
  · exact iLst' (iLc (iSeq rfl rfl) (.yes ⟨_, rfl, rfl, rfl⟩ rfl rfl .nil))
  have ht : Dd 11 (.tuple [.tuple [.str tag, vD K2 F2]]) := dd_tuple (n := 10) fun x hx => by
    rw [List.mem_singleton.mp hx]
    exact dd_pair (n := 9) (dd_str _) (dd_vD K2 F2 (n := 6))
  refine ⟨.dict (([tag].map PyData.str).zip [vD K2 F2]), ⟨[.tuple [.tuple [.str tag, vD K2 F2]]], [tag], [vD K2 F2], i1 rfl, rfl, ⟨_, _, rfl, ht, rfl, ?_⟩, rfl, List.nodup_cons.mpr ⟨by simp, List.nodup_nil⟩, rfl⟩, ?_⟩
  · show [PyData.tuple [.str tag, vD K2 F2]] = [tup (.tuple [.str tag, vD K2 F2])]
    rw [tup_seq (d := .tuple [.str tag, vD K2 F2]) rfl]
    show _ = [PyData.tuple [tup (.str tag), tup (vD K2 F2)]]
    rw [tup_str, tup_vD]
  generalize eT : PyData.dict (([tag].map PyData.str).zip [vD K2 F2]) = TB
  refine ⟨(cut K [tag]).map .str, iLc (iSeq (vD0 rfl) (isS_dS K)) (lc_cut [] (fun x _ => iBin rfl rfl ?_) fun x _ => rfl), ?_⟩
  · rw [← eT]
    exact phKey1 (neg := true)
  have hcl : (cut K [tag]).length ≤ 100 := Nat.le_trans (cut_len _ _) O.len
  refine ⟨[vD K2 F2], ⟨[tag], by rw [← eT] <;> rfl, rfl, by simp, (show 1 ≤ 1000000 by decide)⟩, fun i ε => ∃ v4, ε = [some (.d (vD K F)), some (.d (.tuple [.tuple [.str tag, vD K2 F2]])), some (.d TB), some (.o ((cut K [tag] ++ (if i = 0 then [] else K2)).map .str)), v4, none, none, none, none, none], ⟨none, ?_⟩, ?_, ?_⟩
  · rw [if_pos rfl, List.append_nil]; rfl
  · rintro i hi ε1 ⟨v4, rfl⟩
    have e0 : i = 0 := by simpa using hi
    subst e0
    refine ⟨_, rfl, _, dS K2, K2.map .str, rfl, vD0 rfl, isS_dS K2, ?_, some (.d (vD K2 F2)), ?_⟩
    · rw [List.length_map, List.length_map, if_pos rfl, List.append_nil]
      have := O.len2
      omega
    · rw [if_pos rfl, List.append_nil, if_neg (by decide), List.map_append]; rfl
  rintro ε1 ⟨v4, rfl⟩
  have hne : ¬ [vD K2 F2].length = 0 := fun z => Nat.noConfusion z
  rw [if_neg hne]
  have hnd : (cut K [tag] ++ K2).Nodup := List.nodup_append.mpr ⟨O.nd.filter _, O.nd2, fun x hx y hy e => by
    subst e
    obtain ⟨h1, h2⟩ := mem_cut.1 hx
    exact O.apart x h1 (fun e => h2 (by rw [e]; exact List.mem_cons_self)) hy⟩
  have hnl : (cut K [tag] ++ K2).length ≤ 200 := by rw [List.length_append]; have := O.len2; omega
  generalize eN : cut K [tag] ++ K2 = N at hnd hnl
  refine ⟨dS [], iCallN (i1 (d := lS []) ?_) rfl ⟨_, rfl, .inl ⟨[], isS_lS [], by decide, rfl⟩⟩, ?_⟩
  · have run := LcRun.of (b := .nm 8) (C := rOf (rBin (phI fun i j => decide (j < i)) (rCount (rVar 3) (rVar 8)) (rK (.int 1)))) (R := rVar 8) (ρ := [some (vD K F), some (.tuple [.tuple [.str tag, vD K2 F2]]), some TB, some (lS N), mk1 (fz1 v4), none, none, none, none, none])
      (e := PyData.str) (p := fun _ => false) (g := PyData.str) N fun x hx => ⟨_, rfl, iBin ⟨N, x, rfl, rfl, rfl⟩ rfl ⟨_, _, rfl, rfl, by
        rw [hnd.count, if_pos hx]; rfl⟩, fun q => by cases q⟩
    have hnil : (N.filter fun _ => false) = [] := List.filter_eq_nil_iff.mpr fun _ _ h => by cases h
    rw [hnil] at run
    exact iLst' (iLc (iSeq rfl (isS_lS N)) run)
  refine ⟨false, iBin (iCall (i1 rfl) (iLen (isS_dS []))) rfl ⟨_, _, rfl, rfl, rfl⟩, .inr ⟨rfl, ?_⟩⟩
  refine ⟨[], ⟨iNil, by decide⟩, ?_⟩
  have hone : ∀ o ∈ F, (waysP (o.map (lotOf F2 tag))).length ≤ 100 := fun o ho => by
    rw [ways_len o (O.cn o ho).1]
    have := O.flen2
    split <;> omega
  have hflat : ∀ {G : FM}, (∀ o ∈ G, o ∈ F) → (houseF G F2 tag).length ≤ G.length * 100 := fun {G} => by
    induction G with
    | nil => intro _; simp [houseF]
    | cons a G ih =>
      intro h
      rw [houseF_eq, List.flatMap_cons, List.length_append, List.length_cons, Nat.succ_mul]
      have h1 := hone a (h a List.mem_cons_self)
      have h2 := ih fun o ho => h o (List.mem_cons_of_mem _ ho)
      rw [houseF_eq] at h2
      omega
  refine ⟨_, iSeq (iCallN (i1 (vD1 rfl)) rfl (iTupledF (isF_dF F))) (isF_dF F), fun i ε => ∃ v7, ε = [some (.d (vD K F)), some (.d (.tuple [.tuple [.str tag, vD K2 F2]])), some (.d TB), some (.d (lS N)), fz1 v4, some (.d (dS [])), some (.o ((houseF (F.take i) F2 tag).map dS)), v7, none, none], ⟨none, rfl⟩, ?_, ?_⟩
  · rintro i hi ε2 ⟨v7, rfl⟩
    rw [List.length_map] at hi
    rw [List.getElem_map]
    have ho := List.getElem_mem hi
    generalize eo : F[i] = o at ho
    have hw : (houseF (F.take i) F2 tag).length ≤ 10000 := by
      have := hflat (G := F.take i) fun a ha => List.mem_of_mem_take ha
      rw [List.length_take] at this
      have := O.flen
      have h3 : min i F.length ≤ 100 := by omega
      have : min i F.length * 100 ≤ 100 * 100 := Nat.mul_le_mul_right _ h3
      omega
    refine ⟨_, rfl, _, lF (waysP (o.map (lotOf F2 tag))), _, rfl, iCallN (i1 (d := .list ((o.map (lotOf F2 tag)).map dF)) ?_) rfl ⟨_, o.map (lotOf F2 tag), rfl, rfl, fun j hj => ?_, rfl⟩, isF_lF _, ?_, some (.d (dS o)), ?_⟩
    · rw [List.map_map]
      refine iLst' (iLc (iSeq rfl (isS_dS o)) (LcRun.map (e := PyData.str) (g := dF ∘ lotOf F2 tag) o fun x _ => ⟨_, rfl, decide (x ∈ [tag]), iBin rfl rfl ?_, ?_⟩))
      · rw [← eT]; exact phKey1 (neg := false)
      · by_cases e : x = tag
        · subst e
          refine .inl ⟨by simp, ?_⟩
          have e2 : (dF ∘ lotOf F2 x) x = dF F2 := by simp [lotOf]
          rw [e2]
          refine vD1 (K := K2) (F := F2) (R := rBin phGet (rVar 2) (rVar 8)) ?_
          refine iBin rfl rfl (.inl ⟨[x], [vD K2 F2], x, eT.symm, rfl, rfl, ?_⟩)
          simp [lookD]
        · refine .inr ⟨by simp [e], ?_⟩
          have e2 : (dF ∘ lotOf F2 tag) x = dF [[x]] := by simp [lotOf, e]
          rw [e2]
          exact iTup (i1 (iTup (i1 rfl) (show 1 ≤ 1000000 by decide))) (show 1 ≤ 1000000 by decide)
    · rw [List.map_take.symm]
      have hnj : (o.take j).Nodup := (List.take_sublist j o).nodup (O.cn o ho).1
      refine ⟨?_, fun k hk => ?_⟩
      · rw [ways_len _ hnj]
        have := O.flen2
        split <;> omega
      · have h1 := ways_keys O.cn2 (by decide) (o.take j) k hk
        have h2 : (o.take j).length ≤ 100 := by rw [List.length_take]; have := (O.cn o ho).2; omega
        have h3 : (o.take j).length * 9 ≤ 100 * 9 := Nat.mul_le_mul_right _ h2
        omega
    · rw [List.length_map, List.length_map]
      have := hone o ho
      omega
    · rw [take_succ hi, eo, houseF_eq, houseF_eq, List.flatMap_append, List.map_append, List.flatMap_cons, List.flatMap_nil, List.append_nil]; rfl
  · rintro ε2 ⟨v7, rfl⟩
    rw [List.length_map, List.take_length]
    refine iRet (iCallN (i2 (iCallN (i1 rfl) rfl ⟨_, rfl, .inl ⟨N, isS_lS N, by omega, rfl⟩⟩) rfl) rfl ⟨_, _, sset N, houseF F F2 tag, rfl, isS_dS _, isSs_F (isF_lF _), fun k hk => ?_, O.few, rfl⟩)
    rw [houseF_eq] at hk
    obtain ⟨o, ho, hk⟩ := List.mem_flatMap.mp hk
    have h1 := ways_keys O.cn2 (by decide) o k hk
    have h3 : o.length * 9 ≤ 100 * 9 := Nat.mul_le_mul_right _ (O.cn o ho).2
    omega
def ph_put_in : Phi := fun ds z => ∃ K F tag K2 F2, ds = [vD K F, .str tag, vD K2 F2] ∧ HouseOk K F tag K2 F2 ∧ z = vD (sset (cut K [tag] ++ K2)) (lsF (houseF F F2 tag))
theorem sem_put_in (ds : List PyData) (z : PyData) (h : ph_put_in ds z) : w_put_in ph_house (fun _ => z = .none) (fun y => y = z) (startE ["vault", "key", "inner"] ds) := by
  obtain ⟨K, F, tag, K2, F2, rfl, O, rfl⟩ := h
  exact iRet (iCallN (i2 rfl (iTup (i1 (iTup (i2 rfl rfl) (by show 2 ≤ 1000000; decide))) (by show 1 ≤ 1000000; decide))) rfl ⟨K, F, tag, K2, F2, rfl, O, rfl⟩)
end Vk

/-! ## VkSem6 -/
set_option Elab.async false
set_option linter.all false
set_option maxRecDepth 100000
set_option maxHeartbeats 1000000
/-! What the law's own defs hand back (1). -/
namespace Vk
open PySem PySem.Spec PyProof.Rows PySem.W L2 LamX StX
/-! ### _law_same -/
inductive Nice : Nat → PyData → Prop
  | atom {n : Nat} {d : PyData} : seqOf d = none → noDict d = true → Nice n d
  | seq {n : Nat} {d : PyData} {xs : List PyData} : seqOf d = some xs → xs.length ≤ 1000000 → (∀ x ∈ xs, Nice n x) → Nice (n + 1) d
theorem Nice.dd : ∀ {n : Nat} {d : PyData}, Nice n d → Dd n d
  | n, d, .atom h1 h2 => by
    refine ⟨h2, ?_⟩
    cases d with
    | list xs => cases h1
    | tuple xs => cases h1
    | dict kvs => simp [noDict] at h2
    | _ => show 0 ≤ n; omega
  | _, d, .seq (n := n) (xs := xs) h1 h2 h3 => by
    have hx : ∀ x ∈ xs, Dd n x := fun x hx => Nice.dd (h3 x hx)
    cases d with
    | list ys => cases h1; exact dd_list hx
    | tuple ys => cases h1; exact dd_tuple hx
    | _ => cases h1
theorem nice_str (x : Str) {n : Nat} : Nice n (.str x) := .atom rfl rfl
theorem nice_int (x : Int) {n : Nat} : Nice n (.int x) := .atom rfl rfl
theorem nice_bool (x : Bool) {n : Nat} : Nice n (.bool x) := .atom rfl rfl
theorem nice_map {α : Type} {n : Nat} {d : PyData} {f : α → PyData} {l : List α} (e : seqOf d = some (l.map f)) (hl : l.length ≤ 1000000) (h : ∀ a ∈ l, Nice n (f a)) : Nice (n + 1) d := .seq e (by rw [List.length_map]; exact hl) fun x hx => by
  obtain ⟨a, ha, rfl⟩ := List.mem_map.mp hx
  exact h a ha
theorem nice_dS {k : KS} (h : k.length ≤ 1000000) {n : Nat} : Nice (n + 1) (dS k) := nice_map (isS_dS k) h fun a _ => nice_str a
theorem nice_F {d : PyData} {F : FM} (e : isF d F) (h : F.length ≤ 1000000) (hk : ∀ k ∈ F, k.length ≤ 1000000) {n : Nat} : Nice (n + 2) d := nice_map e h fun a ha => nice_dS (hk a ha)
theorem nice_vD {K : KS} {F : FM} (hK : K.length ≤ 1000000) (h : F.length ≤ 1000000) (hk : ∀ k ∈ F, k.length ≤ 1000000) {n : Nat} : Nice (n + 3) (vD K F) := .seq (xs := [dS K, dF F]) rfl (show 2 ≤ 1000000 by decide) fun x hx => by
  rcases List.mem_cons.mp hx with rfl | hx
  · exact nice_dS hK
  · rw [List.mem_singleton.mp hx]; exact nice_F (isF_dF F) h hk
theorem nice_hangD {h : Hang} (hl : h.length ≤ 1000000) (hk : ∀ p ∈ h, p.2.length ≤ 1000000) {n : Nat} : Nice (n + 3) (hangD h) := nice_map (f := hP) rfl hl fun p hp => .seq (xs := [.str p.1, dS p.2]) rfl (show 2 ≤ 1000000 by decide) fun x hx => by
  rcases List.mem_cons.mp hx with rfl | hx
  · exact nice_str _
  · rw [List.mem_singleton.mp hx]; exact nice_dS (hk p hp)
theorem nice_list {n : Nat} {xs : List PyData} (hl : xs.length ≤ 1000000) (h : ∀ x ∈ xs, Nice n x) : Nice (n + 1) (.list xs) := .seq rfl hl h
theorem Nice.up {n : Nat} {d : PyData} (h : Nice n d) : Nice (n + 1) d := by
  induction h with
  | atom h1 h2 => exact .atom h1 h2
  | seq h1 h2 _ ih => exact .seq h1 h2 ih
theorem Nice.le {n m : Nat} {d : PyData} (h : Nice n d) (l : n ≤ m) : Nice m d := by
  induction l with
  | refl => exact h
  | step _ ih => exact ih.up
def ph_samN (n : Nat) : Phi := fun ds z => ∃ d, ds = [d, d] ∧ Nice n d ∧ z = .bool true
theorem eqv_self_b (b : Bool) : PyData.eqv (.bool b) (.bool b) = true := by cases b <;> rfl
theorem eqv_self_i (i : Int) : PyData.eqv (.int i) (.int i) = true := by simp [PyData.eqv]
theorem ne_bb (b : Bool) : phNe (.bool b) (.bool b) (.bool false) := ⟨rfl, rfl, by rw [eqv_self_b]; rfl⟩
theorem eq_bb (b : Bool) : phEq (.bool b) (.bool b) (.bool true) := ⟨rfl, rfl, by rw [eqv_self_b]⟩
theorem eq_ii (i : Int) : phEq (.int i) (.int i) (.bool true) := ⟨rfl, rfl, by rw [eqv_self_i]⟩
theorem zip_self_map : ∀ xs : List PyData, (xs.zip xs).map pairD = xs.map fun x => pairD (x, x)
  | [] => rfl
  | x :: xs => by rw [List.zip_cons_cons, List.map_cons, List.map_cons, zip_self_map xs]
theorem sem_law_same {n : Nat} (ds : List PyData) (z : PyData) (h : ph_samN (n + 1) ds z) : w__law_same (ph_samN n) (fun _ => z = .none) (fun y => y = z) (startE ["_law_got", "_law_goal", "_law_mine_so", "_law_own"] ds) := by
  obtain ⟨d, rfl, hd, rfl⟩ := h
  have nd := hd.dd.1
  cases e : seqOf d with
  | some xs =>
    refine ⟨true, ⟨d, rfl, nd, by rw [isTy_seq e]⟩, .inl ⟨rfl, ?_⟩⟩
    refine ⟨false, ⟨false, iBin ⟨d, rfl, nd, rfl⟩ ⟨d, rfl, nd, rfl⟩ (ne_bb _), .inl ⟨rfl, iBin ⟨d, rfl, nd, rfl⟩ ⟨d, rfl, nd, rfl⟩ (ne_bb _)⟩⟩, .inr ⟨rfl, ?_⟩⟩
    obtain ⟨hl, hx⟩ : xs.length ≤ 1000000 ∧ ∀ x ∈ xs, Nice n x := by
      cases hd with
      | atom h1 _ => rw [e] at h1; cases h1
      | seq h1 h2 h3 => rw [e] at h1; cases h1; exact ⟨h2, h3⟩
    show wRet _ (fun _ => PyData.bool true = .none) _ _
    refine ⟨.bool true, ⟨true, iBin (iCall (i1 rfl) (iLen e)) (iCall (i1 rfl) (iLen e)) (eq_ii _), .inl ⟨rfl, ?_⟩⟩, rfl⟩
    have ha : (xs.all fun _ => true) = true := List.all_eq_true.mpr fun _ _ => rfl
    have q := iAllM (fun _ : PyData => true) xs
    rw [ha] at q
    refine iCall (i1 (iLst' (iLc (ds := (xs.zip xs).map pairD) ⟨xs, xs, ?_, hl, rfl⟩ ?_))) q
    · cases d with
      | list ys => cases e; exact .inl ⟨rfl, rfl⟩
      | tuple ys => cases e; exact .inr ⟨rfl, rfl⟩
      | _ => cases e
    · rw [zip_self_map]
      exact LcRun.map (e := fun x => pairD (x, x)) (g := fun _ => .bool true) xs fun x hx' => ⟨_, ⟨_, rfl, rfl, rfl⟩, iCallN (i2 rfl rfl) rfl ⟨x, rfl, hx x hx', rfl⟩⟩
  | none =>
    refine ⟨false, ⟨d, rfl, nd, by rw [isTy_no e]⟩, .inr ⟨rfl, ?_⟩⟩
    show wSeq _ _ (fun _ => PyData.bool true = .none) _ _
    cases d with
    | list ys => cases e
    | tuple ys => cases e
    | dict kvs => simp [noDict] at nd
    | none =>
      refine ⟨true, ⟨true, ⟨.none, rfl, .inl ⟨rfl, rfl⟩⟩, .inr ⟨rfl, rfl⟩⟩, .inl ⟨rfl, ?_⟩⟩
      exact ⟨_, ⟨true, iBin rfl rfl ⟨rfl, rfl, rfl⟩, .inl ⟨rfl, true, iBin ⟨.none, rfl, rfl, rfl⟩ ⟨.none, rfl, rfl, rfl⟩ (eq_bb _), .inl ⟨rfl, iBin ⟨.none, rfl, .inl ⟨rfl, rfl⟩⟩ ⟨.none, rfl, .inl ⟨rfl, rfl⟩⟩ (eq_bb _)⟩⟩⟩, rfl⟩
    | bool b =>
      refine ⟨true, ⟨false, ⟨.bool b, rfl, .inr ⟨(fun z => by cases z), rfl⟩⟩, .inl ⟨rfl, ⟨.bool b, rfl, rfl, rfl⟩⟩⟩, .inl ⟨rfl, ?_⟩⟩
      exact ⟨_, ⟨true, iBin rfl rfl (eq_bb b), .inl ⟨rfl, true, iBin ⟨.bool b, rfl, rfl, rfl⟩ ⟨.bool b, rfl, rfl, rfl⟩ (eq_bb _), .inl ⟨rfl, iBin ⟨.bool b, rfl, .inr ⟨(fun z => by cases z), rfl⟩⟩ ⟨.bool b, rfl, .inr ⟨(fun z => by cases z), rfl⟩⟩ (eq_bb _)⟩⟩⟩, rfl⟩
    | str x =>
      refine ⟨true, ⟨false, ⟨.str x, rfl, .inr ⟨(fun z => by cases z), rfl⟩⟩, .inl ⟨rfl, ⟨.str x, rfl, rfl, rfl⟩⟩⟩, .inl ⟨rfl, ?_⟩⟩
      exact ⟨_, ⟨true, iBin rfl rfl ⟨rfl, rfl, by rw [eqv_str]; simp⟩, .inl ⟨rfl, true, iBin ⟨.str x, rfl, rfl, rfl⟩ ⟨.str x, rfl, rfl, rfl⟩ (eq_bb _), .inl ⟨rfl, iBin ⟨.str x, rfl, .inr ⟨(fun z => by cases z), rfl⟩⟩ ⟨.str x, rfl, .inr ⟨(fun z => by cases z), rfl⟩⟩ (eq_bb _)⟩⟩⟩, rfl⟩
    | int i =>
      refine ⟨false, ⟨false, ⟨.int i, rfl, .inr ⟨(fun z => by cases z), rfl⟩⟩, .inl ⟨rfl, ⟨.int i, rfl, rfl, rfl⟩⟩⟩, .inr ⟨rfl, ?_⟩⟩
      show wRet _ (fun _ => PyData.bool true = .none) _ _
      exact ⟨_, ⟨true, ⟨.int i, rfl, rfl, rfl⟩, .inl ⟨rfl, true, ⟨false, ⟨.int i, rfl, rfl, rfl⟩, rfl⟩, .inl ⟨rfl, iBin rfl rfl (eq_ii i)⟩⟩⟩, rfl⟩
abbrev ph_same : Phi := ph_samN 13
theorem iSame {d : PyData} {n : Nat} (h : Nice n d) (hn : n ≤ 13) : ph_same [d, d] (.bool true) := ⟨d, rfl, h.le hn, rfl⟩
/-! ### _law_subs -/
theorem keyS_data (a b : KS) : dataLe false id (keyS a) (keyS b) = bLe a b := by
  rw [← bLe_data a b, dataLe_eq, dataLe_eq]
  show (!dataLt (keyS b) (keyS a)) = (!dataLt (keyD (dS b)) (keyD (dS a)))
  rw [keyD_dS, keyD_dS]
theorem iSortK (F : FM) : phSorted [.list (F.map keyS)] (.list ((bsort F).map keyS)) := ⟨F.map keyS, rfl, AllAlike.of alike_keyS, .inr fun d hd => by
  obtain ⟨k, _, rfl⟩ := List.mem_map.mp hd
  exact ⟨_, rfl⟩, fun d hd => by
  obtain ⟨k, _, rfl⟩ := List.mem_map.mp hd
  have : Dd 2 (keyS k) := dd_pair ⟨rfl, by show 0 ≤ 1; decide⟩ (dd_dS k (n := 0))
  exact ⟨Nat.le_trans this.2 (by decide), this.1⟩, by rw [sortD_enc bLe_total bLe_anti keyS_data (.refl _)]; rfl⟩
def ph_law_subs : Phi := fun ds z => ∃ d xs, ds = [d] ∧ isS d xs ∧ xs.length ≤ 10 ∧ z = lF (bsort (subsF xs))
theorem sem_law_subs (ds : List PyData) (z : PyData) (h : ph_law_subs ds z) : w__law_subs (fun _ => z = .none) (fun y => y = z) (startE ["_law_things", "_law_found", "_law_own", "_law_far"] ds) := by
  obtain ⟨d, xs, rfl, hd, hl, rfl⟩ := h
  refine ⟨_, iLst (ds := [.tuple []]) (i1 (iTup iNil (by decide))) (by decide), ?_⟩
  refine ⟨_, iSeq rfl hd, fun i ε => ∃ v, ε = [some (.d d), some (.d (lF (subsF (xs.take i)))), v, none], ⟨none, rfl⟩, ?_, ?_⟩
  · rintro i hi ε1 ⟨v, rfl⟩
    rw [List.length_map] at hi
    refine ⟨_, rfl, ?_⟩
    rw [List.getElem_map]
    have hn : (xs.take i).length ≤ 10 := by rw [List.length_take]; omega
    have hp : 2 ^ (xs.take i).length ≤ 1024 := Nat.le_trans (Nat.pow_le_pow_right (by decide) hn) (by decide)
    refine ⟨_, iBin (e := .list ((subsF (xs.take i)).map fun lot => dS (lot ++ [xs[i]]))) rfl (iLst' (iLc (iSeq rfl (isF_lF _)) (LcRun.map (g := fun lot => dS (lot ++ [xs[i]])) _ fun lot hlot => ⟨_, rfl, ?_⟩))) ⟨_, _, rfl, rfl, ?_, rfl⟩, ⟨some (.d (.str xs[i])), ?_⟩⟩
    · have := (subsF_sub _ lot hlot).length_le
      refine iBin rfl (iTup (i1 rfl) (show 1 ≤ 1000000 by decide)) ⟨lot.map .str, [.str xs[i]], rfl, rfl, by rw [List.length_map, List.length_singleton]; omega, ?_⟩
      unfold dS; rw [List.map_append]; rfl
    · rw [List.length_map, List.length_map, subsF_len]; omega
    · rw [take_succ hi, subsF_snoc]
      show [some (Cell.d d), some (Cell.d (.list ((subsF (xs.take i)).map dS ++ (subsF (xs.take i)).map fun lot => dS (lot ++ [xs[i]])))), some (Cell.d (.str xs[i])), none] = _
      unfold lF
      rw [List.map_append, List.map_map]; rfl
  · rintro ε1 ⟨v, rfl⟩
    rw [List.length_map, List.take_length]
    refine iRet (iLst' (iLc (iSeq (iCall (i1 (d := .list ((subsF xs).map keyS)) (iLst' (iLc (iSeq rfl (isF_lF _)) (LcRun.map (e := dS) (g := keyS) (subsF xs) fun lot _ => ⟨_, rfl, ?_⟩)))) (iSortK _)) rfl) (LcRun.map (e := keyS) (g := dS) (bsort (subsF xs)) fun lot _ => ⟨_, rfl, iIx1 rfl rfl⟩)))
    have q := iLen (isS_dS lot)
    rw [List.length_map] at q
    exact iTup (i2 (iCall (i1 rfl) q) rfl) (show 2 ≤ 1000000 by decide)
/-! ### _law_inside, _law_opens, _law_idle -/
theorem eqv_lnil (xs : List PyData) : PyData.eqv (.list xs) (.list []) = xs.isEmpty := by
  cases xs <;> simp [PyData.eqv, PyData.eqvAll]
theorem eq_lnilS (l : KS) : phEq (lS l) (.list []) (.bool l.isEmpty) := ⟨fit_lS l, rfl, by
  unfold lS; rw [eqv_lnil]; cases l <;> rfl⟩
theorem ne_lnilS (l : KS) : phNe (lS l) (.list []) (.bool !l.isEmpty) := ⟨fit_lS l, rfl, by
  unfold lS; rw [eqv_lnil]; cases l <;> rfl⟩
theorem eq_lnilF (l : FM) : phEq (lF l) (.list []) (.bool l.isEmpty) := ⟨fit_lF l, rfl, by
  unfold lF; rw [eqv_lnil]; cases l <;> rfl⟩
theorem ne_lnilF (l : FM) : phNe (lF l) (.list []) (.bool !l.isEmpty) := ⟨fit_lF l, rfl, by
  unfold lF; rw [eqv_lnil]; cases l <;> rfl⟩
theorem iNilL {ρ : DEnv} : rLst rNil ρ (.list []) := iLst iNil (by decide)
theorem cut_empty (a b : KS) : (cut a b).isEmpty = subB a b := by
  apply Bool.eq_iff_iff.mpr
  rw [List.isEmpty_iff, subB_iff]
  constructor
  · intro h x hx
    refine Classical.byContradiction fun z => ?_
    have : x ∈ cut a b := mem_cut.2 ⟨hx, z⟩
    rw [h] at this
    cases this
  · intro h
    refine List.eq_nil_iff_forall_not_mem.mpr fun x hx => ?_
    obtain ⟨h1, h2⟩ := mem_cut.1 hx
    exact h2 (h x h1)
def ph_law_inside : Phi := fun ds z => ∃ d e xs ys, ds = [d, e] ∧ isS d xs ∧ isS e ys ∧ z = .bool (subB xs ys)
theorem sem_law_inside (ds : List PyData) (z : PyData) (h : ph_law_inside ds z) : w__law_inside (fun _ => z = .none) (fun y => y = z) (startE ["_law_some", "_law_others", "_law_own"] ds) := by
  obtain ⟨d, e, xs, ys, rfl, hd, he, rfl⟩ := h
  rw [← cut_empty]
  exact iRet (iBin (d := lS (cut xs ys)) (iLst' (iLc (iSeq rfl hd) (lc_cut [] (fun x _ => iBin rfl rfl (phNotIn_s he)) fun x _ => rfl))) iNilL (eq_lnilS _))
theorem filter_empty {α : Type} (p : α → Bool) (l : List α) : (l.filter p).isEmpty = !l.any p := by
  induction l with
  | nil => rfl
  | cons a l ih =>
    cases c : p a with
    | true => rw [List.filter_cons_of_pos c, List.any_cons, c]; rfl
    | false => rw [List.filter_cons_of_neg (by rw [c]; decide), List.any_cons, c, ih]; rfl
def ph_law_opens : Phi := fun ds z => ∃ K F e h, ds = [vD K F, e] ∧ isS e h ∧ z = .bool (opB F h)
theorem sem_law_opens (ds : List PyData) (z : PyData) (h : ph_law_opens ds z) : w__law_opens ph_law_inside (fun _ => z = .none) (fun y => y = z) (startE ["_law_vault_so", "_law_held", "_law_own"] ds) := by
  obtain ⟨K, F, e, h, rfl, he, rfl⟩ := h
  have e1 : opB F h = !(F.filter fun o => subB o h).isEmpty := by rw [filter_empty, Bool.not_not]; rfl
  rw [e1]
  exact iRet (iBin (d := lF (F.filter fun o => subB o h)) (iLst' (iLc (iSeq (vD1 rfl) (isF_dF F)) (LcRun.of (e := dS) (p := fun o => subB o h) (g := dS) F fun o _ => ⟨_, rfl, iCallN (i2 rfl rfl) rfl ⟨_, _, o, h, rfl, isS_dS o, he, rfl⟩, fun _ => rfl⟩))) iNilL (ne_lnilF _))
def idlP (K : KS) (F : FM) : KS := K.filter fun x => !F.any fun o => decide (x ∈ o)
def ph_law_idle : Phi := fun ds z => ∃ K F, ds = [vD K F] ∧ z = dS (idlP K F)
theorem sem_law_idle (ds : List PyData) (z : PyData) (h : ph_law_idle ds z) : w__law_idle (fun _ => z = .none) (fun y => y = z) (startE ["_law_vault_so", "_law_tag", "_law_own"] ds) := by
  obtain ⟨K, F, rfl, rfl⟩ := h
  refine iRet (iCall (i1 (d := lS (idlP K F)) (iLst' (iLc (iSeq (vD0 rfl) (isS_dS K)) (LcRun.of (e := PyData.str) (p := fun x => !F.any fun o => decide (x ∈ o)) (g := PyData.str) K fun x _ => ⟨_, rfl, ?_, fun _ => rfl⟩)))) (iTuple rfl))
  rw [← filter_empty]
  exact iBin (d := lF (F.filter fun o => decide (x ∈ o))) (iLst' (iLc (iSeq (vD1 rfl) (isF_dF F)) (LcRun.of (e := dS) (p := fun o => decide (x ∈ o)) (g := dS) F fun o _ => ⟨_, rfl, iBin rfl rfl (phIn_s (isS_dS o)), fun _ => rfl⟩))) iNilL (eq_lnilF _)
/-! ### _law_least -/
def minP (P : FM) : FM := P.filter fun own => !P.any fun far => !decide (far = own) && subB far own
theorem minP_least {P : FM} (hc : CnF P) (hs : Sd tupLe P) : Least (minP P) ∧ ∀ k, opB (minP P) k = opB P k := by
  have hm : ∀ a ∈ minP P, a ∈ P := fun a ha => (List.mem_filter.mp ha).1
  refine ⟨⟨fun a ha => hc a (hm a ha), fun a ha b hb s => ?_, hs.1.filter _, hs.2.filter _⟩, fun k => ?_⟩
  · refine Classical.byContradiction fun ne => ?_
    have := (List.mem_filter.mp hb).2
    have h2 : (P.any fun far => !decide (far = b) && subB far b) = true := List.any_eq_true.mpr ⟨a, hm a ha, by rw [subB_iff.2 s]; simp [ne]⟩
    rw [h2] at this
    cases this
  · have key : ∀ n, ∀ a ∈ P, a.length ≤ n → ∃ b ∈ minP P, ∀ x ∈ b, x ∈ a := by
      intro n
      induction n with
      | zero =>
        intro a ha hl
        have : a = [] := List.eq_nil_of_length_eq_zero (by omega)
        subst this
        refine ⟨[], List.mem_filter.mpr ⟨ha, ?_⟩, fun x hx => hx⟩
        cases c : P.any fun far => !decide (far = []) && subB far [] with
        | false => rfl
        | true =>
          obtain ⟨far, _, h2⟩ := List.any_eq_true.mp c
          rw [Bool.and_eq_true] at h2
          have h3 := subB_iff.1 h2.2
          have : far = [] := List.eq_nil_iff_forall_not_mem.mpr fun x hx => by cases h3 x hx
          rw [this] at h2
          simp at h2
      | succ n ih =>
        intro a ha hl
        cases c : P.any fun far => !decide (far = a) && subB far a with
        | false => exact ⟨a, List.mem_filter.mpr ⟨ha, by rw [c]; rfl⟩, fun x hx => hx⟩
        | true =>
          obtain ⟨far, hf, h2⟩ := List.any_eq_true.mp c
          rw [Bool.and_eq_true] at h2
          have h3 := subB_iff.1 h2.2
          have hl2 : far.length ≤ n := Classical.byContradiction fun q => by
            have e : far = a := cn_ext (hc far hf) (hc a ha) fun x => ⟨h3 x, nodup_sub_eq (hc far hf).1 h3 (by omega) x⟩
            have := h2.1
            simp [e] at this
          obtain ⟨b, hb, s⟩ := ih far hf hl2
          exact ⟨b, hb, fun x hx => h3 x (s x hx)⟩
    apply Bool.eq_iff_iff.mpr
    rw [opB_iff, opB_iff]
    refine ⟨fun ⟨o, ho, s⟩ => ⟨o, hm o ho, s⟩, fun ⟨o, ho, s⟩ => ?_⟩
    obtain ⟨b, hb, s2⟩ := key _ o ho (Nat.le_refl _)
    exact ⟨b, hb, fun x hx => s x (s2 x hx)⟩
theorem minP_lsF (F : FM) : minP (tset (F.map sset)) = lsF F := by
  have hc : CnF (tset (F.map sset)) := fun a ha => cn_map_sset F a (tset_mem.1 ha)
  obtain ⟨h1, h2⟩ := minP_least hc (canon_sd tupLe_total _)
  refine least_ext h1 (least_lsF F) fun k => ?_
  rw [h2, opB_lsF, ← opB_sset F]
  apply Bool.eq_iff_iff.mpr
  rw [opB_iff, opB_iff]
  exact exists_congr fun o => and_congr_left fun _ => tset_mem
theorem eqv_dS_b (a b : KS) : PyData.eqv (dS a) (dS b) = decide (a = b) := by
  apply Bool.eq_iff_iff.mpr
  rw [eqv_dS, decide_eq_true_eq]
def ph_law_least : Phi := fun ds z => ∃ d F, ds = [d] ∧ isF d F ∧ (∀ k ∈ F, k.length ≤ 1000) ∧ Few (F.map sset) ∧ z = dF (lsF F)
theorem sem_law_least (ds : List PyData) (z : PyData) (h : ph_law_least ds z) : w__law_least ph_law_inside (fun _ => z = .none) (fun y => y = z) (startE ["_law_sets_so", "_law_pool", "_law_own", "_law_far"] ds) := by
  obtain ⟨d, F, rfl, hd, hk, hf, rfl⟩ := h
  obtain ⟨U, u1, u2⟩ := hf.few
  refine ⟨lF (tset (F.map sset)), ⟨lF (F.map sset), _, ?_, isF_lF _, .inr ⟨F.map sset, U, rfl, hf.len, u1, u2, rfl⟩⟩, ?_⟩
  · have q := iLst' (iLc (own := [2]) (b := .nm 2) (I := rSeq (rVar 0)) (R := rCall phTuple (rCons (rSset (rVar 2)) rNil)) (ρ := [some d, none, none, none]) (iSeq rfl hd)
      (LcRun.map (e := dS) (g := fun o => dS (sset o)) F fun o ho => ⟨_, rfl, iCall (i1 (d := lS (sset o)) ⟨dS o, _, rfl, isS_dS o, .inl ⟨o, rfl, Nat.le_trans (hk o ho) (by decide), rfl⟩⟩) (iTuple rfl)⟩))
    unfold lF
    rw [List.map_map]
    exact q
  · rw [← minP_lsF]
    generalize tset (F.map sset) = P
    refine iRet (iCall (i1 (d := lF (minP P)) (iLst' (iLc (iSeq rfl (isF_lF P)) (LcRun.of (e := dS) (p := fun own => !P.any fun far => !decide (far = own) && subB far own) (g := dS) P fun own _ => ⟨_, rfl, ?_, fun _ => rfl⟩)))) (iTuple rfl))
    rw [← filter_empty]
    refine iBin (d := lF (P.filter fun far => !decide (far = own) && subB far own)) (iLst' (iLc (iSeq rfl (isF_lF P)) (LcRun.of (e := dS) (p := fun far => !decide (far = own) && subB far own) (g := dS) P fun far _ => ⟨_, rfl, ⟨!decide (far = own), iBin rfl rfl ⟨fit_dS _, fit_dS _, by rw [eqv_dS_b]⟩, ?_⟩, fun _ => rfl⟩))) iNilL (eq_lnilF _)
    cases c : decide (far = own) with
    | true => exact .inr ⟨rfl, rfl⟩
    | false => exact .inl ⟨rfl, iCallN (i2 rfl rfl) rfl ⟨_, _, far, own, rfl, isS_dS far, isS_dS own, by simp⟩⟩
/-! ### _law_kept -/
def ph_law_kept : Phi := fun ds z => ∃ hang e f gone stays, ds = [hangD hang, e, f] ∧ isS e gone ∧ isS f stays ∧ hang.length ≤ 100000 ∧ z = hangD (keptP hang gone stays)
theorem keptP_take {hang : Hang} {gone stays : KS} {i : Nat} (h : i < hang.length) : keptP (hang.take (i + 1)) gone stays = keptP (hang.take i) gone stays ++ keptP [hang[i]] gone stays := by
  unfold keptP; rw [take_succ h, List.filter_append, List.map_append]
theorem sem_law_kept (ds : List PyData) (z : PyData) (h : ph_law_kept ds z) : w__law_kept (fun _ => z = .none) (fun y => y = z) (startE ["_law_hanging_so", "_law_gone_so", "_law_stays_so", "_law_found", "_law_own", "_law_tag"] ds) := by
  obtain ⟨hang, e, f, gone, stays, rfl, he, hf, hl, rfl⟩ := h
  refine ⟨[], ⟨iNil, by decide⟩, ?_⟩
  refine ⟨_, iSeq rfl rfl, fun i ε => ∃ v, ε = [some (.d (hangD hang)), some (.d e), some (.d f), some (.o ((keptP (hang.take i) gone stays).map hP)), v, none], ⟨none, rfl⟩, ?_, ?_⟩
  · rintro i hi ε1 ⟨v, rfl⟩
    rw [List.length_map] at hi
    rw [List.getElem_map]
    refine ⟨_, rfl, ?_⟩
    show wIf _ _ _ (fun ε => ∃ v, ε = [some (.d (hangD hang)), some (.d e), some (.d f), some (.o ((keptP (hang.take (i + 1)) gone stays).map hP)), v, none]) _ _
    rw [keptP_take hi]
    have hlen : (keptP (hang.take i) gone stays).length ≤ 100000 := by
      unfold keptP
      rw [List.length_map]
      refine Nat.le_trans (List.length_filter_le _ _) ?_
      rw [List.length_take]; omega
    generalize keptP (hang.take i) gone stays = acc at hlen
    generalize hang[i] = p
    refine ⟨(inter p.2 stays).isEmpty, iBin (d := lS (inter p.2 stays)) (iLst' (iLc (iSeq (hP1 (p := p) rfl) (isS_dS p.2)) (lc_inter (fun x _ => iBin rfl rfl (phIn_s hf)) fun x _ => rfl))) iNilL (eq_lnilS _), ?_⟩
    cases c : (inter p.2 stays).isEmpty with
    | true =>
      have e2 : keptP [p] gone stays = [(p.1, cut p.2 gone)] := by simp [keptP, c]
      rw [e2]
      refine .inl ⟨rfl, _, hP (p.1, cut p.2 gone), rfl, iTup (i2 (hP0 (p := p) rfl) (iCall (i1 (d := lS (cut p.2 gone)) (iLst' (iLc (iSeq (hP1 (p := p) rfl) (isS_dS p.2)) (lc_cut [] (fun x _ => iBin rfl rfl (phNotIn_s he)) fun x _ => rfl)))) (iTuple rfl))) (show 2 ≤ 1000000 by decide), ?_, some (.d (hP p)), ?_⟩
      · rw [List.length_map]; omega
      · rw [List.map_append]; rfl
    | false =>
      have e2 : keptP [p] gone stays = [] := by simp [keptP, c]
      rw [e2, List.append_nil]
      exact .inr ⟨rfl, some (.d (hP p)), rfl⟩
  · rintro ε1 ⟨v, rfl⟩
    rw [List.length_map, List.take_length]
    exact iRet (iCall (i1 rfl) (iTuple rfl))
end Vk

/-! ## VkSem7 -/
set_option Elab.async false
set_option linter.all false
set_option maxRecDepth 100000
set_option maxHeartbeats 1000000
/-! What the law's own defs hand back (2): locks, the vaults by hand. -/
namespace Vk
open PySem PySem.Spec PyProof.Rows PySem.W L2 LamX StX
/-! ### _law_locks -/
def lockN1 : KS := (("abcdefghijklmnopqrstuvwxyz" : Str).cps.toList).map fun c => ("k" : Str) ++ (⟨#[c]⟩ : Str)
def lockN2 : KS := (("abcdefghij" : Str).cps.toList).map fun c => ("l" : Str) ++ (⟨#[c]⟩ : Str)
def lockN : KS := lockN1 ++ lockN2
theorem lockN_len : lockN.length = 36 := by decide +kernel
def locksP (F : FM) : Hang := lockN.zip F
theorem locksP_snd {F : FM} (h : F.length ≤ 36) : (locksP F).map (·.2) = F := by
  unfold locksP
  exact List.map_snd_zip (by rw [lockN_len]; exact h)
def ph_law_locks : Phi := fun ds z => ∃ d F, ds = [d] ∧ isF d F ∧ z = hangD (locksP F)
theorem sem_law_locks (ds : List PyData) (z : PyData) (h : ph_law_locks ds z) : w__law_locks (fun _ => z = .none) (fun y => y = z) (startE ["_law_sets_so", "_law_pool", "_law_own"] ds) := by
  obtain ⟨d, F, rfl, hd, rfl⟩ := h
  have l1 : ("k" : Str).length = 1 := by decide +kernel
  have l2 : ("l" : Str).length = 1 := by decide +kernel
  refine ⟨lS lockN, iBin (d := lS lockN1) (e := lS lockN2) ?_ ?_ ⟨_, _, rfl, rfl, ?_, ?_⟩, ?_⟩
  · have q := iLst' (iLc (own := [2]) (b := .nm 2) (I := rText (rK (.str "abcdefghijklmnopqrstuvwxyz"))) (R := rBin phAddS (rK (.str "k")) (rVar 2)) (ρ := [some d, none, none]) ⟨_, rfl, by decide +kernel, rfl⟩
      (LcRun.map (e := sgn) (g := fun c => .str (("k" : Str) ++ (⟨#[c]⟩ : Str))) (("abcdefghijklmnopqrstuvwxyz" : Str).cps.toList) fun c _ => ⟨_, rfl, iBin rfl rfl ⟨"k", ⟨#[c]⟩, rfl, rfl, by rw [l1]; show 1 + 1 ≤ 1000000; decide, rfl⟩⟩))
    unfold lS lockN1
    rw [List.map_map]
    exact q
  · have q := iLst' (iLc (own := [2]) (b := .nm 2) (I := rText (rK (.str "abcdefghij"))) (R := rBin phAddS (rK (.str "l")) (rVar 2)) (ρ := [some d, none, none]) ⟨_, rfl, by decide +kernel, rfl⟩
      (LcRun.map (e := sgn) (g := fun c => .str (("l" : Str) ++ (⟨#[c]⟩ : Str))) (("abcdefghij" : Str).cps.toList) fun c _ => ⟨_, rfl, iBin rfl rfl ⟨"l", ⟨#[c]⟩, rfl, rfl, by rw [l2]; show 1 + 1 ≤ 1000000; decide, rfl⟩⟩))
    unfold lS lockN2
    rw [List.map_map]
    exact q
  · rw [List.length_map, List.length_map, ← List.length_append]
    have := lockN_len
    unfold lockN at this
    omega
  · unfold lS lockN; rw [List.map_append]
  · refine iRet (iCall (i1 (d := .list ((locksP F).map hP)) ⟨lS lockN, d, _, _, rfl, rfl, isS_lS lockN, hd, by rw [List.length_map, lockN_len]; decide, ?_⟩) (iTuple rfl))
    unfold locksP
    rw [zip_pairs]
/-! ### the vaults by hand -/
def k3 : KS := ["a", "b", "c"]
def f3 : FM := [["a", "b"], ["a", "c"], ["b", "c"]]
def f2 : FM := [["a", "c"], ["b", "c"]]
def k6 : KS := (("abcdefg" : Str).cps.toList).map fun c => (⟨#[c]⟩ : Str)
def e6 : FM := [["e", "f"], ["e", "g"], ["f", "g"]]
def pre (k : Str) : FM := e6.map fun x => k :: x
def pre2 : FM := e6.map fun x => ("c" : Str) :: ("d" : Str) :: x
def hd1 (k : Str) : FM := [[k, "c", "d"]]
def s6a : FM := hd1 "a" ++ pre "a"
def s6b : FM := hd1 "b" ++ pre "b"
def f6 : FM := isort tupLe (s6a ++ s6b ++ pre2)
def ph_law_three : Phi := fun ds z => ds = [] ∧ z = vD k3 f3
theorem ok2 {α : Type} {x y : α} : [x, y].length ≤ 1000000 := show 2 ≤ 1000000 by decide
theorem ok1 {α : Type} {x : α} : [x].length ≤ 1000000 := show 1 ≤ 1000000 by decide
theorem ok3 {α : Type} {x y z : α} : [x, y, z].length ≤ 1000000 := show 3 ≤ 1000000 by decide
theorem sem_law_three (ds : List PyData) (z : PyData) (h : ph_law_three ds z) : w__law_three (fun _ => z = .none) (fun y => y = z) (startE [] ds) := by
  obtain ⟨rfl, rfl⟩ := h
  exact iRet (iTup (i2 (iTup (iCons rfl (i2 rfl rfl)) ok3) (iTup (iCons (iTup (i2 rfl rfl) ok2) (i2 (iTup (i2 rfl rfl) ok2) (iTup (i2 rfl rfl) ok2))) ok3)) ok2)
def ph_law_two : Phi := fun ds z => ds = [] ∧ z = vD k3 f2
theorem sem_law_two (ds : List PyData) (z : PyData) (h : ph_law_two ds z) : w__law_two (fun _ => z = .none) (fun y => y = z) (startE [] ds) := by
  obtain ⟨rfl, rfl⟩ := h
  exact iRet (iTup (i2 (iTup (iCons rfl (i2 rfl rfl)) ok3) (iTup (i2 (iTup (i2 rfl rfl) ok2) (iTup (i2 rfl rfl) ok2)) ok2)) ok2)
def ph_law_six : Phi := fun ds z => ds = [] ∧ z = vD k6 f6
theorem i_e6 {ρ : DEnv} : rTup (rCons (rTup (rCons (rK (.str "e")) (rCons (rK (.str "f")) rNil))) (rCons (rTup (rCons (rK (.str "e")) (rCons (rK (.str "g")) rNil))) (rCons (rTup (rCons (rK (.str "f")) (rCons (rK (.str "g")) rNil))) rNil))) ρ (dF e6) :=
  iTup (iCons (iTup (i2 rfl rfl) ok2) (i2 (iTup (i2 rfl rfl) ok2) (iTup (i2 rfl rfl) ok2))) ok3
theorem e6_len : ∀ x ∈ e6, x.length = 2 := fun x hx => by
  unfold e6 at hx
  rcases List.mem_cons.mp hx with rfl | hx
  · rfl
  rcases List.mem_cons.mp hx with rfl | hx
  · rfl
  · rw [List.mem_singleton.mp hx]; rfl
theorem sem_law_six (ds : List PyData) (z : PyData) (h : ph_law_six ds z) : w__law_six (fun _ => z = .none) (fun y => y = z) (startE ["_law_sets_so", "_law_near", "_law_far"] ds) := by
  obtain ⟨rfl, rfl⟩ := h
  have turn : ∀ (k : Str) (v : Option PyData) (acc : FM), acc.length ≤ 100 → rBin phAddL (rBin phAddL (rVar 0) (rLst (rCons (rBin phAddT (rVar 1) (rTup (rCons (rK (.str "c")) (rCons (rK (.str "d")) rNil)))) rNil))) (rLst' (rLc [2] (rSeq (rTup (rCons (rTup (rCons (rK (.str "e")) (rCons (rK (.str "f")) rNil))) (rCons (rTup (rCons (rK (.str "e")) (rCons (rK (.str "g")) rNil))) (rCons (rTup (rCons (rK (.str "f")) (rCons (rK (.str "g")) rNil))) rNil))))) (.nm 2) rYes (rBin phAddT (rVar 1) (rVar 2))))
      [some (lF acc), some (dS [k]), v] (lF (acc ++ [[k, "c", "d"]] ++ pre k)) := fun k v acc hl => by
    refine iBin (d := lF (acc ++ [[k, "c", "d"]])) (e := .list (e6.map fun x => dS (k :: x))) (iBin (e := .list [dS [k, "c", "d"]]) rfl (iLst (i1 (iBin (e := dS ["c", "d"]) rfl (iTup (i2 rfl rfl) ok2) ⟨_, _, rfl, rfl, (show 1 + 2 ≤ 1000000 by decide), rfl⟩)) ok1) ⟨_, _, rfl, rfl, ?_, ?_⟩) (iLst' (iLc (iSeq i_e6 (isF_dF e6)) (LcRun.map (e := dS) (g := fun x => dS (k :: x)) e6 fun x hx => ⟨_, rfl, iBin rfl rfl ⟨[.str k], x.map .str, rfl, rfl, ?_, rfl⟩⟩))) ⟨_, _, rfl, rfl, ?_, ?_⟩
    · rw [List.length_map]; show acc.length + 1 ≤ _; omega
    · unfold lF; rw [List.map_append]; rfl
    · rw [List.length_map, e6_len x hx]; show 1 + 2 ≤ 1000000; decide
    · rw [List.length_map, List.length_map, List.length_append]; show acc.length + 1 + 3 ≤ _; omega
    · unfold lF pre; rw [List.map_append, List.map_map]; rfl
  refine ⟨lF [], iLst iNil (by decide), ?_⟩
  refine ⟨[dS ["a"], dS ["b"]], iSeq (iTup (i2 (iTup (i1 rfl) ok1) (iTup (i1 rfl) ok1)) ok2) rfl, fun i ε => ∃ v, ε = [some (.d (lF (if i = 0 then [] else if i = 1 then s6a else s6a ++ s6b))), v, none], ⟨none, rfl⟩, ?_, ?_⟩
  · rintro i hi ε1 ⟨v, rfl⟩
    have hi' : i < 2 := hi
    rcases (show i = 0 ∨ i = 1 by omega) with rfl | rfl
    · refine ⟨_, rfl, lF (s6a), turn "a" none [] (by decide), some (.d (dS ["a"])), rfl⟩
    · refine ⟨_, rfl, lF (s6a ++ s6b), ?_, some (.d (dS ["b"])), rfl⟩
      have q := turn "b" none (s6a) (by decide)
      rw [List.append_assoc] at q
      exact q
  · rintro ε1 ⟨v, rfl⟩
    show wSeq _ _ _ _ [some (Cell.d (lF (s6a ++ s6b))), v, none]
    refine ⟨lF (s6a ++ s6b ++ pre2), ?_, ?_⟩
    · refine iBin rfl (e := .list (e6.map fun x => dS (("c" : Str) :: ("d" : Str) :: x))) (iLst' (iLc (iSeq i_e6 (isF_dF e6)) (LcRun.map (e := dS) (g := fun x => dS (("c" : Str) :: ("d" : Str) :: x)) e6 fun x hx => ⟨_, rfl, iBin (d := dS ["c", "d"]) (iTup (i2 rfl rfl) ok2) rfl ⟨[.str "c", .str "d"], x.map .str, rfl, rfl, ?_, rfl⟩⟩))) ⟨_, _, rfl, rfl, ?_, ?_⟩
      · rw [List.length_map, e6_len x hx]; show 2 + 2 ≤ 1000000; decide
      · rw [List.length_map, List.length_map]; show 8 + 3 ≤ 1000000; decide
      · unfold lF pre2; rw [List.map_append, List.map_map]; rfl
    · refine iRet (iTup (i2 (d := dS k6) ?_ (iCall (i1 (iCall (i1 rfl) (iSortT _))) (iTuple rfl))) ok2)
      show _ = PyData.tuple _
      unfold dS k6
      rw [List.map_map]; rfl
end Vk

/-! ## VkSem8 -/
set_option Elab.async false
set_option linter.all false
set_option maxRecDepth 100000
set_option maxHeartbeats 1000000
/-! The law's checks (1): losses, peoples. -/
namespace Vk
open PySem PySem.Spec PyProof.Rows PySem.W L2 LamX StX
/-- a vault: its keys sorted, its sets least and of its keys -/
structure Vlt (K : KS) (F : FM) : Prop where
  cn : Cn K
  len : K.length ≤ 10
  least : Least F
  inK : ∀ o ∈ F, ∀ x ∈ o, x ∈ K
theorem Vlt.klen {K : KS} {F : FM} (V : Vlt K F) : ∀ o ∈ F, o.length ≤ 10 := fun o ho => Nat.le_trans (nodup_sub_len (V.least.cn o ho).1 (V.inK o ho)) V.len
theorem few_small {F : FM} (h : F.length ≤ 76) (hk : ∀ k ∈ F, k.length ≤ 1000) : Few F := ⟨by omega, hk, F, h, fun _ h => h⟩
theorem leastP_len (F : FM) : (leastP F).length ≤ F.length := by
  unfold leastP
  rw [(isort_perm _ _).length_eq]
  refine Nat.le_trans (lsList_sub _).length_le ?_
  unfold bsort
  rw [(isort_perm _ _).length_eq]
  exact canon_length _ _
theorem lsF_len (F : FM) : (lsF F).length ≤ F.length := by
  have := leastP_len (F.map sset)
  rwa [List.length_map] at this
theorem sset_len (l : KS) : (sset l).length ≤ l.length := canon_length _ _
theorem few_sset {F : FM} (h : F.length ≤ 76) (hk : ∀ k ∈ F, k.length ≤ 1000) : Few (F.map sset) := few_small (by rw [List.length_map]; exact h) fun k hk' => by
  obtain ⟨o, ho, rfl⟩ := List.mem_map.mp hk'
  exact Nat.le_trans (sset_len o) (hk o ho)
theorem lsF_keys {F : FM} {n : Nat} (hk : ∀ k ∈ F, k.length ≤ n) : ∀ k ∈ lsF F, k.length ≤ n := fun k hk' => by
  obtain ⟨o, ho, rfl⟩ := List.mem_map.mp (leastP_mem hk')
  exact Nat.le_trans (sset_len o) (hk o ho)
theorem lost_keys {F : FM} {g : KS} {n : Nat} (hk : ∀ k ∈ F, k.length ≤ n) : ∀ k ∈ lostF F g, k.length ≤ n := lsF_keys fun k hk' => hk k (List.mem_filter.mp hk').1
theorem left_keys {F : FM} {s : KS} {n : Nat} (hk : ∀ k ∈ F, k.length ≤ n) : ∀ k ∈ leftF F s, k.length ≤ n := lsF_keys fun k hk' => by
  obtain ⟨o, ho, rfl⟩ := List.mem_map.mp hk'
  exact Nat.le_trans (cut_len o s) (hk o ho)
theorem lost_len (F : FM) (g : KS) : (lostF F g).length ≤ F.length := Nat.le_trans (lsF_len _) (List.length_filter_le _ _)
theorem left_len (F : FM) (s : KS) : (leftF F s).length ≤ F.length := Nat.le_trans (lsF_len _) (by rw [List.length_map]; exact Nat.le_refl _)
theorem kept_len (hang : Hang) (g s : KS) : (keptP hang g s).length ≤ hang.length := by
  unfold keptP
  rw [List.length_map]
  exact List.length_filter_le _ _
theorem kept_keys {hang : Hang} {g s : KS} {n : Nat} (h : ∀ p ∈ hang, p.2.length ≤ n) : ∀ p ∈ keptP hang g s, p.2.length ≤ n := fun p hp => by
  obtain ⟨q, hq, rfl⟩ := List.mem_map.mp hp
  exact Nat.le_trans (cut_len _ _) (h q (List.mem_filter.mp hq).1)
/-! ### _law_loss_right -/
structure LossOk (K : KS) (F : FM) (hang : Hang) (g s : KS) : Prop where
  v : Vlt K F
  hb : hang.map (·.2) = barP F
  hl : hang.length ≤ 76
  fl : F.length ≤ 76
  gK : ∀ x ∈ g, x ∈ K
  sK : ∀ x ∈ s, x ∈ K ∧ x ∉ g
  gs : g.length + s.length ≤ 1000
  bar1 : BarOk ((keptP hang g s).map (·.2))
  bar2 : BarOk (leftF (lostF F g) s)
  hk : ∀ p ∈ hang, p.2.length ≤ 1000
def ph_loss_right : Phi := fun ds z => ∃ K F hang g s, ds = [vD K F, hangD hang, dS g, dS s] ∧ LossOk K F hang g s ∧ z = .bool true
theorem trimP_len_le {hang : Hang} : (trimP hang).length ≤ hang.length := by
  have := (trStep_len (leastP (hang.map (·.2))) hang ([], [])).1
  rw [trStep_go] at this
  unfold trimP
  simpa using this
theorem few_trim {hang : Hang} (hl : hang.length ≤ 76) (hk : ∀ p ∈ hang, p.2.length ≤ 1000) : Few ((trimP hang).map (·.2)) := few_small (by rw [List.length_map]; exact Nat.le_trans trimP_len_le hl) fun k hk' => by
  obtain ⟨p, hp, rfl⟩ := List.mem_map.mp hk'
  exact hk p (trimP_sub p hp)
theorem few_hang {hang : Hang} (hl : hang.length ≤ 76) (hk : ∀ p ∈ hang, p.2.length ≤ 1000) : Few (hang.map (·.2)) := few_small (by rw [List.length_map]; exact hl) fun k hk' => by
  obtain ⟨p, hp, rfl⟩ := List.mem_map.mp hk'
  exact hk p hp
theorem nice_trim {hang : Hang} (hl : hang.length ≤ 76) (hk : ∀ p ∈ hang, p.2.length ≤ 1000) : Nice 3 (hangD (trimP hang)) := nice_hangD (Nat.le_trans trimP_len_le (by omega)) fun p hp => Nat.le_trans (hk p (trimP_sub p hp)) (by decide)
theorem sem_loss_right (ds : List PyData) (z : PyData) (h : ph_loss_right ds z) : w__law_loss_right ph_behind ph_law_kept ph_is_right ph_same ph_undone_vault ph_trimmed ph_fewest_locks ph_left_in ph_lost (fun _ => z = .none) (fun y => y = z)
    (startE ["_law_vault_so", "_law_hanging_so", "_law_gone_so", "_law_stays_so", "_law_later_so", "_law_rest", "_law_got"] ds) := by
  obtain ⟨K, F, hang, g, s, rfl, O, rfl⟩ := h
  have klen := O.v.klen
  have k1000 : ∀ k ∈ F, k.length ≤ 1000 := fun k hk => Nat.le_trans (klen k hk) (by decide)
  have fnear : Few ((F.filter fun own => !meetB g own).map sset) := few_sset (Nat.le_trans (List.length_filter_le _ _) O.fl) fun k hk => k1000 k (List.mem_filter.mp hk).1
  have fleft : ∀ G : FM, G.length ≤ 76 → (∀ k ∈ G, k.length ≤ 1000) → Few ((G.map fun own => cut own s).map sset) := fun G hG hk => few_sset (by rw [List.length_map]; exact hG) fun k hk' => by
    obtain ⟨o, ho, rfl⟩ := List.mem_map.mp hk'
    exact Nat.le_trans (cut_len o s) (hk o ho)
  have hll : (lostF F g).length ≤ 76 := Nat.le_trans (lost_len F g) O.fl
  have dj : ∀ x ∈ s, x ∉ g := fun x hx => (O.sK x hx).2
  have cnb : CnF (hang.map (·.2)) := by rw [O.hb]; exact (least_barP F).cn
  have hl5 : hang.length ≤ 100000 := by have := O.hl; omega
  have hll2 : (keptP hang g s).length ≤ 76 := Nat.le_trans (kept_len _ _ _) O.hl
  have hlk := kept_keys (g := g) (s := s) O.hk
  have kn : (cut (cut K g) s).Nodup := (O.v.cn.1.filter _).filter _
  have kl : (cut (cut K g) s).length ≤ 10 := Nat.le_trans (cut_len _ _) (Nat.le_trans (cut_len _ _) O.v.len)
  have restE := opB_und (loss_op O.hb dj) (least_lsF _)
  generalize eL : keptP hang g s = L at hll2 hlk restE
  have cnL : CnF (L.map (·.2)) := by rw [← eL]; exact kept_cn cnb
  have restF : leftF (lostF F g) s = barP (L.map (·.2)) := restE.symm
  refine ⟨[.d (hangD L), .d (vD (cut (cut K g) s) (leftF (lostF F g) s))], ⟨_, _, iCallN (iCons rfl (i2 rfl rfl)) rfl ⟨hang, _, _, g, s, rfl, isS_dS g, isS_dS s, hl5, by rw [eL]⟩, ⟨_, _, iCallN (i2 rfl (iTup (i2 rfl rfl) ok2)) rfl ⟨K, F, g, s, rfl, O.gs, O.gK, O.sK, k1000, fnear, fleft _ hll (lost_keys k1000), lost_keys k1000, rfl⟩, rfl, rfl⟩, rfl⟩, rfl, ?_⟩
  have nrest : Nice 3 (vD (cut (cut K g) s) (leftF (lostF F g) s)) := nice_vD (by omega) (Nat.le_trans (left_len _ _) (by omega)) (left_keys (lost_keys fun k hk => Nat.le_trans (k1000 k hk) (by decide)))
  refine ⟨false, ⟨false, iCallN (i2 rfl rfl) rfl ⟨_, _, L, rfl, kn, kl, fun lot _ => by rw [← eL]; exact loss_op O.hb dj lot, rfl⟩, .inl ⟨rfl, iCallN (i2 (d := vD (cut (cut K g) s) (leftF (lostF F g) s)) ?_ rfl) rfl (iSame nrest (by decide))⟩⟩, .inr ⟨rfl, ?_⟩⟩
  · refine iCallN (i2 rfl rfl) rfl ⟨_, _, L, rfl, by rw [← eL]; exact O.bar1, ?_⟩
    rw [restE]
  have elen : (trimP L).length = (barP (leftF (lostF F g) s)).length := by rw [restF, bar_bar cnL, trimP_len cnL]
  refine ⟨false, ?_, .inr ⟨rfl, ?_⟩⟩
  · have nl : Nice 4 (.list [.int (trimP L).length, hangD (trimP L)]) := nice_list ok2 fun x hx => by
      rcases List.mem_cons.mp hx with rfl | hx
      · exact nice_int _
      · rw [List.mem_singleton.mp hx]; exact nice_trim hll2 hlk
    have tr : ph_trimmed [hangD L] (hangD (trimP L)) := ⟨L, rfl, few_hang hll2 hlk, rfl⟩
    refine iCallN (i2 (d := .list [.int (trimP L).length, hangD (trimP L)]) (e := .list [.int (trimP L).length, hangD (trimP L)]) ?_ ?_) rfl (iSame nl (by decide))
    · have q := iLen (d := hangD (trimP L)) (xs := (trimP L).map hP) rfl
      rw [List.length_map] at q
      refine iLst (i2 (iCall (i1 (iCallN (i1 rfl) rfl tr)) q) (iCallN (i1 (iCallN (i1 rfl) rfl tr)) rfl ⟨trimP L, rfl, few_trim hll2 hlk, ?_⟩)) ok2
      rw [trimP_twice cnL]
    · refine iLst (i2 (iCallN (i1 rfl) rfl ⟨_, _, rfl, O.bar2, ?_⟩) (iCallN (i1 rfl) rfl tr)) ok2
      rw [elen]
  · refine ⟨.list [.bool true, .bool true], iLst (i2 (iCallN (i2 (iCallN (i2 rfl rfl) rfl ⟨K, F, _, g, rfl, isS_dS g, O.gK, k1000, fnear, rfl⟩) (iCallN (iCons rfl (i2 rfl (iTup iNil (by decide)))) rfl ⟨hang, _, _, g, [], rfl, isS_dS g, rfl, hl5, rfl⟩)) rfl ⟨_, _, _, rfl, O.v.cn.1.filter _, Nat.le_trans (cut_len _ _) O.v.len, fun lot _ => lost_op O.hb lot, rfl⟩)
      (iCallN (i2 (iCallN (i2 rfl rfl) rfl ⟨K, F, _, s, rfl, isS_dS s, fun x hx => (O.sK x hx).1, k1000, fleft F O.fl k1000, rfl⟩) (iCallN (iCons rfl (i2 (iTup iNil (by decide)) rfl)) rfl ⟨hang, _, _, [], s, rfl, rfl, isS_dS s, hl5, rfl⟩)) rfl ⟨_, _, _, rfl, O.v.cn.1.filter _, Nat.le_trans (cut_len _ _) O.v.len, fun lot _ => left_op O.hb lot, rfl⟩)) ok2, ?_⟩
    have nb : Nice 1 (.list [.bool true, .bool true]) := nice_list ok2 fun x hx => by
      rcases List.mem_cons.mp hx with rfl | hx
      · exact nice_bool _
      · rw [List.mem_singleton.mp hx]; exact nice_bool _
    exact iRet (iCallN (i2 rfl (iLst (i2 rfl rfl) ok2)) rfl (iSame nb (by decide)))
end Vk

/-! ## VkSem9 -/
set_option Elab.async false
set_option linter.all false
set_option maxRecDepth 100000
set_option maxHeartbeats 1000000
/-! The law's checks (2): peoples, houses, committees. -/
namespace Vk
open PySem PySem.Spec PyProof.Rows PySem.W L2 LamX StX
/-! ### _law_people_right -/
theorem zip_kpair : ∀ (K hs : KS), ((K.map PyData.str).zip (hs.map PyData.str)).map pairD = (K.zip (hs.map PyData.str)).map kpair
  | [], _ => rfl
  | _ :: _, [] => rfl
  | n :: ns, k :: F => by
    rw [List.map_cons, List.map_cons, List.zip_cons_cons, List.map_cons, List.zip_cons_cons, List.map_cons, zip_kpair ns F]; rfl
structure PeopleOk (K : KS) (F : FM) (hs : KS) : Prop where
  v : Vlt K F
  hl : hs.length = K.length
  bar : BarOk F
  b36 : (barP F).length ≤ 36
  few : Few ((F.map fun o => o.map (holdOf K hs)).map sset)
  bar2 : BarOk ((barP F).map fun b => sset (b.map (holdOf K hs)))
  fl : F.length ≤ 100000
def ph_people_right : Phi := fun ds z => ∃ K F hs, ds = [vD K F, dS hs] ∧ PeopleOk K F hs ∧ z = .bool true
theorem bar_inK {K : KS} {F : FM} (V : Vlt K F) : ∀ b ∈ barP F, ∀ x ∈ b, x ∈ K := fun b hb x hx => by
  obtain ⟨o, ho, h⟩ := bar_within hb hx
  exact V.inK o ho x h
theorem bar_klen {K : KS} {F : FM} (V : Vlt K F) : ∀ b ∈ barP F, b.length ≤ 10 := fun b hb => Nat.le_trans (nodup_sub_len ((least_barP F).cn b hb).1 (bar_inK V b hb)) V.len
theorem sem_people_right (ds : List PyData) (z : PyData) (h : ph_people_right ds z) : w__law_people_right ph_barriers ph_peoples_vault ph_same ph_undone_vault ph_law_locks (fun _ => z = .none) (fun y => y = z)
    (startE ["_law_vault_so", "_law_holders_so", "_law_table", "_law_found", "_law_own", "_law_folk_so", "_law_tag"] ds) := by
  obtain ⟨K, F, hs, rfl, O, rfl⟩ := h
  have hKl := O.v.len
  generalize eT : PyData.dict ((K.map PyData.str).zip (hs.map .str)) = TB
  refine ⟨[.d TB, .o []], ⟨_, _, ⟨K, hs.map .str, ⟨dS K, dS hs, _, _, vD0 rfl, rfl, isS_dS K, isS_dS hs, by rw [List.length_map]; omega, by rw [zip_kpair]⟩, by rw [List.length_map, O.hl], O.v.cn.1, rfl⟩, ⟨_, _, ⟨iNil, by decide⟩, rfl, rfl⟩, by rw [eT]⟩, rfl, ?_⟩
  have hbl := O.b36
  refine ⟨_, iSeq (iCallN (i1 rfl) rfl ⟨K, F, rfl, O.bar, rfl⟩) (isF_dF _), fun i ε => ∃ v, ε = [some (.d (vD K F)), some (.d (dS hs)), some (.d TB), some (.o ((((barP F).take i).map fun b => sset (b.map (holdOf K hs))).map dS)), v, none, none], ⟨none, rfl⟩, ?_, ?_⟩
  · rintro i hi ε1 ⟨v, rfl⟩
    rw [List.length_map] at hi
    rw [List.getElem_map]
    have hb := List.getElem_mem hi
    generalize eb : (barP F)[i] = b at hb
    refine ⟨_, rfl, _, dS (sset (b.map (holdOf K hs))), rfl, iCall (i1 (d := lS (sset (b.map (holdOf K hs)))) ⟨lS (b.map (holdOf K hs)), _, ?_, isS_lS _, .inl ⟨_, rfl, ?_, rfl⟩⟩) (iTuple rfl), ?_, some (.d (dS b)), ?_⟩
    · have q := iLst' (iLc (own := [6]) (b := .nm 6) (I := rSeq (rVar 4)) (R := rBin phGet (rVar 2) (rVar 6)) (ρ := [some (vD K F), some (dS hs), some TB, none, some (dS b), none, none]) (iSeq rfl (isS_dS b))
        (LcRun.map (e := PyData.str) (g := fun x => .str (holdOf K hs x)) b fun x hx => ⟨_, rfl, iBin rfl rfl (.inl ⟨K, hs.map .str, x, eT.symm, by rw [List.length_map, O.hl], rfl, look_hold O.hl.symm (bar_inK O.v b hb x hx)⟩)⟩))
      have e2 : PyData.list (b.map fun x => .str (holdOf K hs x)) = lS (b.map (holdOf K hs)) := by unfold lS; rw [List.map_map]; rfl
      rw [e2] at q
      exact q
    · rw [List.length_map]
      have := bar_klen O.v b hb
      omega
    · rw [List.length_map, List.length_map, List.length_take]; omega
    · rw [take_succ hi, eb, List.map_append, List.map_append]; rfl
  · rintro ε1 ⟨v, rfl⟩
    rw [List.length_map, List.take_length]
    have e2 := people_bar F (holdOf K hs)
    generalize eFd : ((barP F).map fun b => sset (b.map (holdOf K hs))) = Fd at e2
    have hfd : Fd.length ≤ 36 := by rw [← eFd, List.length_map]; exact hbl
    refine ⟨vD (sset hs) (lsF (F.map fun o => o.map (holdOf K hs))), iCallN (i2 rfl rfl) rfl ⟨K, F, _, hs, rfl, isS_dS hs, O.hl, O.v.cn.1, hKl, O.v.inK, fun k hk => Nat.le_trans (O.v.klen k hk) (by decide), O.few, rfl⟩, ?_⟩
    have nf : Nice 3 (vD (sset hs) (lsF (F.map fun o => o.map (holdOf K hs)))) := nice_vD (by have := sset_len hs; have := O.hl; omega) (by have := lsF_len (F.map fun o => o.map (holdOf K hs)); rw [List.length_map] at this; have := O.fl; omega) (lsF_keys fun k hk => by
      obtain ⟨o, ho, rfl⟩ := List.mem_map.mp hk
      rw [List.length_map]
      exact Nat.le_trans (O.v.klen o ho) (by decide))
    refine iRet (iCallN (i2 (d := vD (sset hs) (lsF (F.map fun o => o.map (holdOf K hs)))) (iCallN (i2 rfl (iCallN (i1 rfl) rfl ⟨_, Fd, rfl, isF_lF _, rfl⟩)) rfl ⟨_, _, locksP Fd, rfl, by rw [locksP_snd hfd, ← eFd]; exact O.bar2, ?_⟩) rfl) rfl (iSame nf (by decide)))
    rw [locksP_snd hfd, e2]
/-! ### _law_lots_right -/
structure LotsOk (K : KS) (F : FM) : Prop where
  v : Vlt K F
  bar : BarOk F
def ph_lots_right : Phi := fun ds z => ∃ K F, ds = [vD K F] ∧ LotsOk K F ∧ z = .bool true
theorem cut_idl (K : KS) (F : FM) : cut K (idlP K F) = matP K F := by
  unfold cut matP
  refine List.filter_congr fun x hx => ?_
  have : x ∈ idlP K F ↔ (F.any fun o => decide (x ∈ o)) = false := by
    unfold idlP
    rw [List.mem_filter]
    exact ⟨fun h => by simpa using h.2, fun h => ⟨hx, by rw [h]; rfl⟩⟩
  cases c : F.any fun o => decide (x ∈ o) with
  | true =>
    have : x ∉ idlP K F := fun z => by have := this.1 z; rw [c] at this; cases this
    simp [this]
  | false => simp [this.2 c]
theorem inter_ne (o s : KS) : (!(inter o s).isEmpty) = meetB o s := by
  apply Bool.eq_iff_iff.mpr
  rw [meetB_iff]
  constructor
  · intro h
    cases e : inter o s with
    | nil => rw [e] at h; cases h
    | cons x l =>
      have hx : x ∈ inter o s := by rw [e]; exact List.mem_cons_self
      obtain ⟨h1, h2⟩ := mem_inter.1 hx
      exact ⟨x, h1, h2⟩
  · rintro ⟨x, h1, h2⟩
    have hx := mem_inter.2 ⟨h1, h2⟩
    cases e : inter o s with
    | nil => rw [e] at hx; cases hx
    | cons y l => rfl
theorem all_take {α : Type} {p : α → Bool} {l : List α} {i : Nat} (h : i < l.length) : (l.take (i + 1)).all p = ((l.take i).all p && p l[i]) := by
  rw [take_succ h, List.all_append]; simp
theorem comB_rows (B : FM) (s : KS) : ((rowsP B s).all fun A => (rowsP B s).all fun C => opB B (cut A s ++ inter C s)) = comB B s := by
  unfold comB rowsP
  rw [List.all_filter]
  congr 1
  funext A
  congr 1
  rw [List.all_filter]
theorem tail_found {p : KS → Bool} {L : FM} {i : Nat} (h : i < L.length) : (L.take (i + 1)).filter p = (L.take i).filter p ++ (if p L[i] then [L[i]] else []) := by
  rw [take_succ h, List.filter_append]
  congr 1
  cases c : p L[i] with
  | true => rw [List.filter_cons_of_pos c]; rfl
  | false => rw [List.filter_cons_of_neg (by rw [c]; decide)]; rfl
theorem lots_sorted (K : KS) (F : FM) (hK : Cn K) (hF : Least F) : isort tupLe ((bsort (subsF (matP K F))).filter fun lot => !decide (lot = []) && comB (barP F) lot) = comP K F := by
  have nd : (subsF (matP K F)).Nodup := subsF_nodup (hK.1.filter _)
  have ndb : (bsort (subsF (matP K F))).Nodup := (isort_perm _ _).nodup_iff.mpr nd
  refine sd_ext tupLe_anti ⟨(isort_perm _ _).nodup_iff.mpr (ndb.filter _), isort_sorted tupLe_total _⟩ ⟨(allS_nodup (hK.1.filter _)).filter _, (isort_sorted tupLe_total _).filter _⟩ fun x => ?_
  rw [mem_isort, List.mem_filter]
  unfold comP
  rw [List.mem_filter, com_self hF]
  have e1 : x ∈ bsort (subsF (matP K F)) ↔ x ∈ allS (matP K F) := by unfold bsort allS; rw [mem_isort, mem_isort]
  rw [e1]
  have e2 : (!decide (x = [])) = decide (0 < (x.length : Int)) := by
    cases x with
    | nil => rfl
    | cons y l => simp
  rw [e2]
theorem sem_lots_right (ds : List PyData) (z : PyData) (h : ph_lots_right ds z) : w__law_lots_right ph_barriers ph_law_subs ph_law_idle ph_law_opens ph_same ph_committees (fun _ => z = .none) (fun y => y = z)
    (startE ["_law_vault_so", "_law_bars_so", "_law_found", "_law_lot", "_law_rows", "_law_fine", "_law_one", "_law_two_here", "_law_some", "_law_tag", "_law_own"] ds) := by
  obtain ⟨K, F, rfl, O, rfl⟩ := h
  have srt := lots_sorted K F O.v.cn O.v.least
  have bk := bar_klen O.v
  refine ⟨[.d (dF (barP F)), .d (lF [])], ⟨_, _, iCallN (i1 rfl) rfl ⟨K, F, rfl, O.bar, rfl⟩, ⟨_, _, iNilL, rfl, rfl⟩, rfl⟩, rfl, ?_⟩
  generalize eB : barP F = B at srt bk
  have hml : (matP K F).length ≤ 10 := Nat.le_trans (List.length_filter_le _ _) O.v.len
  have hbs : (bsort (subsF (matP K F))).length ≤ 1024 := by
    unfold bsort
    rw [(isort_perm _ _).length_eq, subsF_len]
    exact Nat.le_trans (Nat.pow_le_pow_right (by decide) hml) (by decide)
  have hcom : (comP K F).length ≤ 1024 := by
    rw [← srt, (isort_perm _ _).length_eq]
    exact Nat.le_trans (List.length_filter_le _ _) hbs
  have hck : ∀ k ∈ comP K F, k.length ≤ 10 := fun k hk => by
    have := (subsF_sub _ k (mem_isort.1 (List.mem_filter.mp hk).1)).length_le
    omega
  generalize eM : bsort (subsF (matP K F)) = L at srt hbs
  have hLk : ∀ lot ∈ L, lot.length ≤ 10 := fun lot hl => by
    rw [← eM] at hl
    have := (subsF_sub _ lot (mem_isort.1 hl)).length_le
    omega
  let p : KS → Bool := fun lot => !decide (lot = []) && comB B lot
  refine ⟨_, iSeq (iCallN (i1 (d := lS (matP K F)) ?_) rfl ⟨_, matP K F, rfl, isS_lS _, hml, by rw [eM]⟩) (isF_lF _), fun i ε => ∃ v3 v4 v5 v6 v7 v8, ε = [some (.d (vD K F)), some (.d (dF B)), some (.d (lF ((L.take i).filter p))), v3, v4, v5, v6, v7, v8, none, none], ⟨none, none, none, none, none, none, rfl⟩, ?_, ?_⟩
  · rw [← cut_idl]
    exact iLst' (iLc (iSeq (vD0 rfl) (isS_dS K)) (lc_cut [] (fun x _ => iBin rfl (iCallN (i1 rfl) rfl ⟨K, F, rfl, rfl⟩) (phNotIn_s (isS_dS _))) fun x _ => rfl))
  · rintro i hi ε1 ⟨v3, v4, v5, v6, v7, v8, rfl⟩
    rw [List.length_map] at hi
    rw [List.getElem_map]
    have hlot := hLk _ (List.getElem_mem hi)
    have htf := tail_found (p := p) hi
    have hacc : ((L.take i).filter p).length ≤ 1024 := Nat.le_trans (List.length_filter_le _ _) (by rw [List.length_take]; omega)
    generalize eA : (L.take i).filter p = acc at htf hacc
    generalize L[i] = lot at hlot htf
    refine ⟨_, rfl, ?_⟩
    refine ⟨[.d (lF (rowsP B lot)), .d (.bool (!decide (lot = [])))], ⟨_, _, ?_, ⟨_, _, iBin (e := dS []) rfl (iTup iNil (by decide)) ⟨fit_dS _, fit_dS _, ?_⟩, rfl, rfl⟩, rfl⟩, rfl, ?_⟩
    · refine iLst' (iLc (iSeq rfl (isF_dF B)) (LcRun.of (e := dS) (p := fun o => meetB o lot) (g := dS) B fun o _ => ⟨_, rfl, ?_, fun _ => rfl⟩))
      rw [← inter_ne]
      exact iBin (d := lS (inter o lot)) (iLst' (iLc (iSeq rfl (isS_dS o)) (lc_inter (fun x _ => iBin rfl rfl (phIn_s (isS_dS lot))) fun x _ => rfl))) iNilL (ne_lnilS _)
    · rw [eqv_dS_b]
    generalize eR : rowsP B lot = R
    have hRk : ∀ A ∈ R, A.length ≤ 10 := fun A hA => by rw [← eR] at hA; exact bk A (List.mem_filter.mp hA).1
    let row : KS → Bool := fun A => R.all fun C => opB B (cut A lot ++ inter C lot)
    refine ⟨_, iSeq rfl (isF_lF R), fun j ε => ∃ v6 v7 v8, ε = [some (.d (vD K F)), some (.d (dF B)), some (.d (lF acc)), some (.d (dS lot)), some (.d (lF R)), some (.d (.bool (!decide (lot = []) && (R.take j).all row))), v6, v7, v8, none, none], ⟨v6, v7, v8, ?_⟩, ?_, ?_⟩
    · rw [List.take_zero, List.all_nil, Bool.and_true]; rfl
    · rintro j hj ε2 ⟨v6, v7, v8, rfl⟩
      rw [List.length_map] at hj
      rw [List.getElem_map]
      have hA := hRk _ (List.getElem_mem hj)
      have hrow : row R[j] = R.all fun C => opB B (cut R[j] lot ++ inter C lot) := rfl
      have hat := all_take (p := row) hj
      generalize R[j] = A at hA hrow hat
      refine ⟨_, rfl, ?_⟩
      refine ⟨_, iSeq rfl (isF_lF R), fun m ε => ∃ v7 v8, ε = [some (.d (vD K F)), some (.d (dF B)), some (.d (lF acc)), some (.d (dS lot)), some (.d (lF R)), some (.d (.bool ((!decide (lot = []) && (R.take j).all row) && (R.take m).all fun C => opB B (cut A lot ++ inter C lot)))), some (.d (dS A)), v7, v8, none, none], ⟨v7, v8, ?_⟩, ?_, ?_⟩
      · rw [List.take_zero, List.all_nil, Bool.and_true]; rfl
      · rintro m hm ε3 ⟨v7, v8, rfl⟩
        rw [List.length_map] at hm
        rw [List.getElem_map]
        have hC := hRk _ (List.getElem_mem hm)
        have hat2 := all_take (p := fun C => opB B (cut A lot ++ inter C lot)) hm
        generalize R[m] = C at hC hat2
        have l1 := cut_len A lot
        have l2 : (inter C lot).length ≤ C.length := List.length_filter_le _ _
        refine ⟨_, rfl, ?_⟩
        refine ⟨lS (cut A lot ++ inter C lot), iBin (d := lS (cut A lot)) (e := lS (inter C lot)) (iLst' (iLc (iSeq rfl (isS_dS A)) (lc_cut [] (fun x _ => iBin rfl rfl (phNotIn_s (isS_dS lot))) fun x _ => rfl))) (iLst' (iLc (iSeq rfl (isS_dS C)) (lc_inter (fun x _ => iBin rfl rfl (phIn_s (isS_dS lot))) fun x _ => rfl))) ⟨_, _, rfl, rfl, by rw [List.length_map, List.length_map]; omega, by unfold lS; rw [List.map_append]⟩, ?_⟩
        refine ⟨.bool ((!decide (lot = []) && (R.take j).all row) && (R.take (m + 1)).all fun C => opB B (cut A lot ++ inter C lot)), ⟨(!decide (lot = []) && (R.take j).all row) && (R.take m).all fun C => opB B (cut A lot ++ inter C lot), rfl, ?_⟩, some (.d (dS C)), some (.d (lS (cut A lot ++ inter C lot))), rfl⟩
        rw [hat2, ← Bool.and_assoc]
        cases c : ((!decide (lot = []) && (R.take j).all row) && (R.take m).all fun C => opB B (cut A lot ++ inter C lot)) with
        | false => exact .inr ⟨rfl, rfl⟩
        | true =>
          rw [Bool.true_and]
          exact .inl ⟨rfl, iCallN (i2 (iTup (i2 (vD0 rfl) rfl) ok2) rfl) rfl ⟨K, B, _, _, rfl, isS_lS _, rfl⟩⟩
      · rintro ε3 ⟨v7, v8, rfl⟩
        rw [List.length_map, List.take_length]
        refine ⟨some (.d (dS A)), v7, v8, ?_⟩
        rw [hat, hrow, Bool.and_assoc]
    · rintro ε2 ⟨v6, v7, v8, rfl⟩
      rw [List.length_map, List.take_length]
      have ep : (!decide (lot = []) && R.all row) = p lot := by
        show (!decide (lot = []) && R.all row) = (!decide (lot = []) && comB B lot)
        rw [← comB_rows, eR]
      rw [ep]
      refine ⟨lF ((L.take (i + 1)).filter p), iBin (e := .list (if p lot then [dS lot] else [])) rfl (iBin (iLst (i1 rfl) ok1) (iCall (i1 rfl) (.inl ⟨p lot, rfl, rfl⟩)) ⟨[dS lot], p lot, rfl, rfl, (show 1 ≤ 1000000 by decide), rfl⟩) ⟨_, _, rfl, rfl, ?_, ?_⟩, some (.d (dS lot)), some (.d (lF R)), some (.d (.bool (p lot))), v6, v7, v8, rfl⟩
      · rw [List.length_map]
        split
        · show acc.length + 1 ≤ _; omega
        · show acc.length + 0 ≤ _; omega
      · rw [htf]
        unfold lF
        rw [List.map_append]
        split <;> rfl
  · rintro ε1 ⟨v3, v4, v5, v6, v7, v8, rfl⟩
    rw [List.length_map, List.take_length]
    have nc : Nice 2 (lF (comP K F)) := nice_F (isF_lF _) (by omega) fun k hk => Nat.le_trans (hck k hk) (by decide)
    refine iRet (iCallN (i2 (e := lF (comP K F)) (iCallN (i1 rfl) rfl ⟨K, F, rfl, O.v.cn, O.v.len, O.v.inK, fun o ho => Nat.le_trans (O.v.klen o ho) (by decide), rfl⟩) (iCall (i1 rfl) ?_)) rfl (iSame nc (by decide)))
    rw [← srt]
    exact iSortT _
end Vk

/-! ## VkSem10 -/
set_option Elab.async false
set_option linter.all false
set_option maxRecDepth 100000
set_option maxHeartbeats 1000000
/-! The law's checks (3): houses. -/
namespace Vk
open PySem PySem.Spec PyProof.Rows PySem.W L2 LamX StX
structure HouseROk (K : KS) (F : FM) (tag : Str) (K2 : KS) (F2 : FM) : Prop where
  h : HouseOk K F tag K2 F2
  v : Vlt K F
  v2 : Vlt K2 F2
  bar : BarOk F
  bar2 : BarOk F2
  f36 : (hFound (barP F) (barP F2) tag).length ≤ 36
  barw : BarOk (lsF (houseF F F2 tag))
  wlen : (cut K [tag] ++ K2).length ≤ 10
def ph_house_right : Phi := fun ds z => ∃ K F tag K2 F2, ds = [vD K F, .str tag, vD K2 F2] ∧ HouseROk K F tag K2 F2 ∧ z = .bool true
theorem hFound_take {B B2 : FM} {tag : Str} {i : Nat} (h : i < B.length) : hFound (B.take (i + 1)) B2 tag = hFound (B.take i) B2 tag ++ (if tag ∈ B[i] then B2.map fun far => isort strLe (cut B[i] [tag] ++ far) else [B[i]]) := by
  unfold hFound; rw [take_succ h, List.flatMap_append]; simp
theorem hFound_len_take (B B2 : FM) (tag : Str) (i : Nat) : (hFound (B.take i) B2 tag).length ≤ (hFound B B2 tag).length := by
  have : hFound B B2 tag = hFound (B.take i) B2 tag ++ hFound (B.drop i) B2 tag := by
    unfold hFound
    rw [← List.flatMap_append, List.take_append_drop]
  rw [this, List.length_append]; omega
theorem hFound_keys {F F2 : FM} {tag : Str} (h1 : ∀ b ∈ barP F, b.length ≤ 10) (h2 : ∀ b ∈ barP F2, b.length ≤ 10) : ∀ a ∈ hFound (barP F) (barP F2) tag, a.length ≤ 1000 := fun a ha => by
  obtain ⟨own, ho, ha⟩ := List.mem_flatMap.mp ha
  have := h1 own ho
  by_cases c : tag ∈ own
  · rw [if_pos c] at ha
    obtain ⟨far, hf, rfl⟩ := List.mem_map.mp ha
    have := h2 far hf
    have := cut_len own [tag]
    rw [(isort_perm _ _).length_eq, List.length_append]
    omega
  · rw [if_neg c] at ha
    rw [List.mem_singleton.mp ha]
    omega
theorem sem_house_right (ds : List PyData) (z : PyData) (h : ph_house_right ds z) : w__law_house_right ph_put_in ph_barriers ph_law_locks ph_is_right ph_same ph_trimmed (fun _ => z = .none) (fun y => y = z)
    (startE ["_law_vault_so", "_law_tag", "_law_inner_so", "_law_found", "_law_whole_so", "_law_own", "_law_hanging_so", "_law_far", "_law_bit"] ds) := by
  obtain ⟨K, F, tag, K2, F2, rfl, O, rfl⟩ := h
  have bk := bar_klen O.v
  have bk2 := bar_klen O.v2
  have hd : ∀ o ∈ F, ∀ x ∈ o, x ≠ tag → ∀ o2 ∈ F2, x ∉ o2 := fun o ho x hx ne o2 ho2 z => O.h.apart x (O.v.inK o ho x hx) ne (O.v2.inK o2 ho2 x z)
  have fcn := hFound_cn hd
  have fk := hFound_keys (tag := tag) bk bk2
  have hb2 := house_bar2 hd
  have hall := fun k => hFound_all (F := F) (F2 := F2) (tag := tag) k
  have f36 := O.f36
  refine ⟨[.o [], .d (vD (sset (cut K [tag] ++ K2)) (lsF (houseF F F2 tag)))], ⟨_, _, ⟨iNil, by decide⟩, ⟨_, _, iCallN (iCons rfl (i2 rfl rfl)) rfl ⟨K, F, tag, K2, F2, rfl, O.h, rfl⟩, rfl, rfl⟩, rfl⟩, rfl, ?_⟩
  generalize eW : vD (sset (cut K [tag] ++ K2)) (lsF (houseF F F2 tag)) = W
  refine ⟨_, iSeq (iCallN (i1 rfl) rfl ⟨K, F, rfl, O.bar, rfl⟩) (isF_dF _), fun i ε => ∃ v, ε = [some (.d (vD K F)), some (.d (.str tag)), some (.d (vD K2 F2)), some (.o ((hFound ((barP F).take i) (barP F2) tag).map dS)), some (.d W), v, none, none, none], ⟨none, rfl⟩, ?_, ?_⟩
  · rintro i hi ε1 ⟨v, rfl⟩
    rw [List.length_map] at hi
    rw [List.getElem_map]
    have htk := hFound_take (B2 := barP F2) (tag := tag) hi
    have hlen := Nat.le_trans (hFound_len_take (barP F) (barP F2) tag i) f36
    have hlen2 := Nat.le_trans (hFound_len_take (barP F) (barP F2) tag (i + 1)) f36
    have hb := bk _ (List.getElem_mem hi)
    rw [htk] at hlen2
    refine ⟨_, rfl, ?_⟩
    show wIf _ _ _ (fun ε => ∃ v, ε = [some (.d (vD K F)), some (.d (.str tag)), some (.d (vD K2 F2)), some (.o ((hFound ((barP F).take (i + 1)) (barP F2) tag).map dS)), some (.d W), v, none, none, none]) _ _
    rw [htk]
    generalize hFound ((barP F).take i) (barP F2) tag = acc at hlen hlen2
    generalize (barP F)[i] = own at hb hlen2
    refine ⟨decide (tag ∈ own), iBin rfl rfl (phIn_s (isS_dS own)), ?_⟩
    by_cases c : tag ∈ own
    · rw [if_pos c] at hlen2 ⊢
      rw [List.length_append, List.length_map] at hlen2
      refine .inl ⟨decide_eq_true c, _, (((barP F2).map fun far => isort strLe (cut own [tag] ++ far)).map dS), rfl, ?_, ?_, some (.d (dS own)), ?_⟩
      · rw [List.map_map]
        refine iLst' (iLc (iSeq (iCallN (i1 rfl) rfl ⟨K2, F2, rfl, O.bar2, rfl⟩) (isF_dF _)) (LcRun.map (e := dS) (g := dS ∘ fun far => isort strLe (cut own [tag] ++ far)) (barP F2) fun far hf => ⟨_, rfl, ?_⟩))
        have hfl := bk2 far hf
        have hcl := cut_len own [tag]
        refine iCall (i1 (iCall (i1 (d := lS (cut own [tag] ++ far)) ?_) (iSortS _))) (iTuple rfl)
        refine iBin (d := lS (cut own [tag])) (e := lS far) (iLst' (iLc (iSeq rfl (isS_dS own)) (lc_cut [] (fun x _ => iBin rfl rfl ⟨rfl, rfl, ?_⟩) fun x _ => rfl))) (iCall (i1 rfl) (iList rfl)) ⟨_, _, rfl, rfl, by rw [List.length_map, List.length_map]; omega, by unfold lS; rw [List.map_append]⟩
        rw [eqv_str]; simp
      · rw [List.length_map, List.length_map, List.length_map]; omega
      · rw [List.map_append]; rfl
    · rw [if_neg c]
      refine .inr ⟨decide_eq_false c, _, dS own, rfl, rfl, by rw [List.length_map]; omega, some (.d (dS own)), ?_⟩
      rw [List.map_append]; rfl
  · rintro ε1 ⟨v, rfl⟩
    rw [List.length_map, List.take_length]
    generalize eFd : hFound (barP F) (barP F2) tag = Fd at f36 fcn fk hb2 hall
    show wFrz _ (fun _ => PyData.bool true = .none) _ _
    have hsnd := locksP_snd f36
    have hlk : ∀ p ∈ locksP Fd, p.2.length ≤ 1000 := fun p hp => fk p.2 (by rw [← hsnd]; exact List.mem_map.mpr ⟨p, hp, rfl⟩)
    have hll : (locksP Fd).length ≤ 76 := by
      have := congrArg List.length hsnd
      rw [List.length_map] at this
      omega
    refine ⟨hangD (locksP Fd), iCallN (i1 rfl) rfl ⟨_, Fd, rfl, isF_lF Fd, rfl⟩, ?_⟩
    refine iRet ⟨true, iCallN (i2 rfl rfl) rfl ⟨_, _, locksP Fd, by rw [← eW], (cn_sset _).1, Nat.le_trans (sset_len _) O.wlen, fun lot _ => ?_, rfl⟩, .inl ⟨rfl, ?_⟩⟩
    · rw [opB_lsF, opB_house, undB_snd, hsnd, hall]
    · have nn : Nice 2 (lF (leastP Fd)) := nice_F (isF_lF _) (by have := leastP_len Fd; omega) fun k hk => Nat.le_trans (fk k (leastP_mem hk)) (by decide)
      refine iCallN (i2 (d := lF (leastP Fd)) (e := lF (leastP Fd)) ?_ ?_) rfl (iSame nn (by decide))
      · have q := iSortT ((trimP (locksP Fd)).map (·.2))
        rw [trimP_sorted (by rw [hsnd]; exact fcn), hsnd] at q
        refine iCall (i1 ?_) q
        have q2 := iLst' (iLc (own := [5]) (b := .nm 5) (I := rSeq (rCallN 1 ph_trimmed (rCons (rVar 6) rNil))) (R := rBin phIx (rVar 5) (rK (.int 1))) (ρ := [some (vD K F), some (.str tag), some (vD K2 F2), some (lF Fd), some W, op1 (fz1 v), some (hangD (locksP Fd)), none, none]) (iSeq (iCallN (i1 rfl) rfl ⟨locksP Fd, rfl, few_hang hll hlk, rfl⟩) rfl)
          (LcRun.map (e := hP) (g := fun p => dS p.2) (trimP (locksP Fd)) fun p _ => ⟨_, rfl, hP1 (p := p) rfl⟩))
        unfold lF
        rw [List.map_map]
        exact q2
      · have q := iList (isF_dF (barP (lsF (houseF F F2 tag))))
        rw [hb2] at q
        refine iCall (i1 (iCallN (i1 rfl) rfl ⟨_, _, by rw [← eW], O.barw, by rw [hb2]⟩)) q
end Vk

/-! ## VkSize -/
set_option Elab.async false
set_option linter.all false
set_option maxRecDepth 100000
set_option maxHeartbeats 1000000
/-! Sizes: few keys, few sets. -/
namespace Vk
open PySem PySem.Spec PyProof.Rows PySem.W
/-- laid sets of at most six keys -/
theorem few6 {K : KS} {F : FM} (hK : Cn K) (hl : K.length ≤ 6) (hc : CnF F) (hin : ∀ o ∈ F, ∀ x ∈ o, x ∈ K) (hF : F.length ≤ 100000) : Few F := by
  refine ⟨hF, fun k hk => Nat.le_trans (nodup_sub_len (hc k hk).1 (hin k hk)) (by omega), allS K, ?_, fun k hk => allS_mem hK (hc k hk) (hin k hk)⟩
  rw [allS_len]
  exact Nat.le_trans (Nat.pow_le_pow_right (by decide) hl) (by decide)
theorem nodup_sets {K : KS} {F : FM} (hK : Cn K) (hl : K.length ≤ 6) (hc : CnF F) (hin : ∀ o ∈ F, ∀ x ∈ o, x ∈ K) (nd : F.Nodup) : F.length ≤ 64 := by
  have := nodup_sub_len (a := F) (b := allS K) nd fun k hk => allS_mem hK (hc k hk) (hin k hk)
  rw [allS_len] at this
  exact Nat.le_trans this (Nat.le_trans (Nat.pow_le_pow_right (by decide) hl) (by decide))
theorem bar_in {K : KS} {F : FM} (hin : ∀ o ∈ F, ∀ x ∈ o, x ∈ K) : ∀ b ∈ barP F, ∀ x ∈ b, x ∈ K := fun b hb x hx => by
  obtain ⟨o, ho, h⟩ := bar_within hb hx
  exact hin o ho x h
theorem bar64 {K : KS} {F : FM} (hK : Cn K) (hl : K.length ≤ 6) (hin : ∀ o ∈ F, ∀ x ∈ o, x ∈ K) : (barP F).length ≤ 64 := nodup_sets hK hl (least_barP F).cn (bar_in hin) (least_barP F).sd.1
theorem flatMap_len {α β : Type} {f : α → List β} {n : Nat} : ∀ {l : List α}, (∀ a ∈ l, (f a).length ≤ n) → (l.flatMap f).length ≤ l.length * n
  | [], _ => by simp
  | a :: l, h => by
    rw [List.flatMap_cons, List.length_append, List.length_cons, Nat.succ_mul]
    have := h a List.mem_cons_self
    have := flatMap_len (l := l) fun b hb => h b (List.mem_cons_of_mem _ hb)
    omega
theorem barOk6 {K : KS} {F : FM} (hK : Cn K) (hl : K.length ≤ 6) (hin : ∀ o ∈ F, o.length ≤ 1000 ∧ ∀ x ∈ o, x ∈ K) : BarOk F := by
  have hin' : ∀ (i : Nat), ∀ o ∈ F.take i, ∀ x ∈ o, x ∈ K := fun i o ho => (hin o (List.mem_of_mem_take ho)).2
  refine ⟨fun i h => ?_, fun i h own ho => ?_⟩
  · have hb := bar64 hK hl (hin' i)
    have hbk := bar_in (hin' i)
    have hO := hin _ (List.getElem_mem h)
    refine few6 hK hl (barL_cn (least_barP _).cn) (fun a ha x hx => ?_) ?_
    · rcases List.mem_append.mp ha with ha | ha
      · exact hbk a (List.mem_filter.mp ha).1 x hx
      · obtain ⟨own, ho, ha⟩ := List.mem_flatMap.mp ha
        obtain ⟨key, hk, rfl⟩ := List.mem_map.mp ha
        rcases List.mem_append.mp (sset_mem.1 hx) with q | q
        · exact hbk own (List.mem_filter.mp ho).1 x q
        · rw [List.mem_singleton.mp q]; exact hO.2 key hk
    · unfold barL
      rw [List.length_append]
      have h1 : ((barP (F.take i)).filter fun own => meetB own F[i]).length ≤ 64 := Nat.le_trans (List.length_filter_le _ _) hb
      have h2 := flatMap_len (f := fun own => F[i].map fun key => sset (own ++ [key])) (n := 1000) (l := (barP (F.take i)).filter fun own => !meetB own F[i]) fun a _ => by rw [List.length_map]; exact hO.1
      have h3 : ((barP (F.take i)).filter fun own => !meetB own F[i]).length ≤ 64 := Nat.le_trans (List.length_filter_le _ _) hb
      have h4 := Nat.mul_le_mul_right 1000 h3
      omega
  · exact Nat.le_trans (nodup_sub_len ((least_barP _).cn own ho).1 (bar_in (hin' i) own ho)) (by omega)
/-! ### how large a family can be in which none lies within another -/
/-- the chain of a set of four keys -/
def chain4 (a b c d : Bool) : Nat := match a, b, c, d with
  | false, false, false, false => 0
  | true, false, false, false => 0
  | true, true, false, false => 0
  | true, true, true, false => 0
  | true, true, true, true => 0
  | false, true, false, false => 1
  | false, true, true, false => 1
  | false, true, true, true => 1
  | false, false, true, false => 2
  | true, false, true, false => 2
  | true, false, true, true => 2
  | false, false, false, true => 3
  | true, false, false, true => 3
  | true, true, false, true => 3
  | false, true, false, true => 4
  | false, false, true, true => 5
theorem chain4_lt (a b c d : Bool) : chain4 a b c d < 6 := by cases a <;> cases b <;> cases c <;> cases d <;> decide
def impB (a b : Bool) : Bool := !a || b
theorem chain4_cmp : ∀ a b c d a' b' c' d' : Bool, chain4 a b c d = chain4 a' b' c' d' → (impB a a' && impB b b' && impB c c' && impB d d') = true ∨ (impB a' a && impB b' b && impB c' c && impB d' d) = true := by decide
def chain3 (a b c : Bool) : Nat := match a, b, c with
  | false, false, false => 0
  | true, false, false => 0
  | true, true, false => 0
  | true, true, true => 0
  | false, true, false => 1
  | false, true, true => 1
  | false, false, true => 2
  | true, false, true => 2
theorem chain3_lt (a b c : Bool) : chain3 a b c < 3 := by cases a <;> cases b <;> cases c <;> decide
theorem chain3_cmp : ∀ a b c a' b' c' : Bool, chain3 a b c = chain3 a' b' c' → (impB a a' && impB b b' && impB c c') = true ∨ (impB a' a && impB b' b && impB c' c) = true := by decide
/-- is the i-th key in it -/
def bit (K : KS) (i : Nat) (o : KS) : Bool := match K[i]? with
  | some x => decide (x ∈ o)
  | none => false
theorem imp_bit {K : KS} {i : Nat} {a b : KS} (h : impB (bit K i a) (bit K i b) = true) : ∀ x, K[i]? = some x → x ∈ a → x ∈ b := fun x hx ha => by
  unfold bit at h
  rw [hx] at h
  simpa [impB, ha] using h
theorem map_len_lt {α : Type} {n : Nat} {f : α → Nat} {l : List α} (hn : ∀ a ∈ l, f a < n) (inj : (l.map f).Nodup) : l.length ≤ n := by
  have := nodup_sub_len (a := l.map f) (b := List.range n) inj fun x hx => by
    obtain ⟨a, ha, rfl⟩ := List.mem_map.mp hx
    exact List.mem_range.mpr (hn a ha)
  rwa [List.length_map, List.length_range] at this
theorem nodup_map_inj {α β : Type} {f : α → β} : ∀ {l : List α}, l.Nodup → (∀ a ∈ l, ∀ b ∈ l, f a = f b → a = b) → (l.map f).Nodup
  | [], _, _ => List.nodup_nil
  | a :: l, h, inj => by
    obtain ⟨h1, h2⟩ := List.nodup_cons.mp h
    refine List.nodup_cons.mpr ⟨fun z => ?_, nodup_map_inj h2 fun x hx y hy => inj x (List.mem_cons_of_mem _ hx) y (List.mem_cons_of_mem _ hy)⟩
    obtain ⟨b, hb, e⟩ := List.mem_map.mp z
    exact h1 (inj a List.mem_cons_self b (List.mem_cons_of_mem _ hb) e.symm ▸ hb)
theorem anti6 {K : KS} {F : FM} (hl : K.length ≤ 4) (hF : Least F) (hin : ∀ o ∈ F, ∀ x ∈ o, x ∈ K) : F.length ≤ 6 := by
  refine map_len_lt (f := fun o => chain4 (bit K 0 o) (bit K 1 o) (bit K 2 o) (bit K 3 o)) (fun a _ => chain4_lt _ _ _ _) (nodup_map_inj hF.sd.1 fun a ha b hb e => ?_)
  have sub : ∀ {a b : KS}, a ∈ F → (impB (bit K 0 a) (bit K 0 b) && impB (bit K 1 a) (bit K 1 b) && impB (bit K 2 a) (bit K 2 b) && impB (bit K 3 a) (bit K 3 b)) = true → ∀ x ∈ a, x ∈ b := fun {a b} ha h x hx => by
    simp only [Bool.and_eq_true] at h
    obtain ⟨⟨⟨h0, h1⟩, h2⟩, h3⟩ := h
    obtain ⟨i, hi, e⟩ := List.getElem_of_mem (hin a ha x hx)
    have hg : K[i]? = some x := by rw [List.getElem?_eq_getElem hi, e]
    rcases (show i = 0 ∨ i = 1 ∨ i = 2 ∨ i = 3 by omega) with rfl | rfl | rfl | rfl
    · exact imp_bit h0 x hg hx
    · exact imp_bit h1 x hg hx
    · exact imp_bit h2 x hg hx
    · exact imp_bit h3 x hg hx
  rcases chain4_cmp _ _ _ _ _ _ _ _ e with h | h
  · exact hF.anti a ha b hb (sub ha h)
  · exact (hF.anti b hb a ha (sub hb h)).symm
theorem anti3 {K : KS} {F : FM} (hl : K.length ≤ 3) (hF : Least F) (hin : ∀ o ∈ F, ∀ x ∈ o, x ∈ K) : F.length ≤ 3 := by
  refine map_len_lt (f := fun o => chain3 (bit K 0 o) (bit K 1 o) (bit K 2 o)) (fun a _ => chain3_lt _ _ _) (nodup_map_inj hF.sd.1 fun a ha b hb e => ?_)
  have sub : ∀ {a b : KS}, a ∈ F → (impB (bit K 0 a) (bit K 0 b) && impB (bit K 1 a) (bit K 1 b) && impB (bit K 2 a) (bit K 2 b)) = true → ∀ x ∈ a, x ∈ b := fun {a b} ha h x hx => by
    simp only [Bool.and_eq_true] at h
    obtain ⟨⟨h0, h1⟩, h2⟩ := h
    obtain ⟨i, hi, e⟩ := List.getElem_of_mem (hin a ha x hx)
    have hg : K[i]? = some x := by rw [List.getElem?_eq_getElem hi, e]
    rcases (show i = 0 ∨ i = 1 ∨ i = 2 by omega) with rfl | rfl | rfl
    · exact imp_bit h0 x hg hx
    · exact imp_bit h1 x hg hx
    · exact imp_bit h2 x hg hx
  rcases chain3_cmp _ _ _ _ _ _ e with h | h
  · exact hF.anti a ha b hb (sub ha h)
  · exact (hF.anti b hb a ha (sub hb h)).symm
theorem hFound_len {B B2 : FM} {tag : Str} (h2 : B2.length ≤ 3) : (hFound B B2 tag).length ≤ B.length * 3 := flatMap_len fun a _ => by
  split
  · rw [List.length_map]; exact h2
  · show 1 ≤ 3; decide
/-! ### small vaults are fit for every check -/
structure Vlt4 (K : KS) (F : FM) : Prop where
  cn : Cn K
  len : K.length ≤ 4
  least : Least F
  inK : ∀ o ∈ F, ∀ x ∈ o, x ∈ K
theorem Vlt4.v {K : KS} {F : FM} (V : Vlt4 K F) : Vlt K F := ⟨V.cn, Nat.le_trans V.len (by decide), V.least, V.inK⟩
theorem Vlt4.bar {K : KS} {F : FM} (V : Vlt4 K F) : BarOk F := barOk6 V.cn (Nat.le_trans V.len (by decide)) fun o ho => ⟨Nat.le_trans (V.v.klen o ho) (by decide), V.inK o ho⟩
theorem Vlt4.b6 {K : KS} {F : FM} (V : Vlt4 K F) : (barP F).length ≤ 6 := anti6 V.len (least_barP F) (bar_inK V.v)
theorem Vlt4.f6 {K : KS} {F : FM} (V : Vlt4 K F) : F.length ≤ 6 := anti6 V.len V.least V.inK
theorem locks_len {F : FM} (h : F.length ≤ 36) : (locksP F).length = F.length := by
  have := congrArg List.length (locksP_snd h)
  rwa [List.length_map] at this
theorem lossOk4 {K : KS} {F : FM} {hang : Hang} {g s : KS} (V : Vlt4 K F) (hb : hang.map (·.2) = barP F) (gK : ∀ x ∈ g, x ∈ K) (sK : ∀ x ∈ s, x ∈ K ∧ x ∉ g) (gs : g.length + s.length ≤ 1000) : LossOk K F hang g s := by
  have hl : hang.length ≤ 6 := by
    have := congrArg List.length hb
    rw [List.length_map] at this
    have := V.b6
    omega
  have hk : ∀ p ∈ hang, p.2.length ≤ 10 ∧ ∀ x ∈ p.2, x ∈ K := fun p hp => by
    have : p.2 ∈ barP F := by rw [← hb]; exact List.mem_map.mpr ⟨p, hp, rfl⟩
    exact ⟨bar_klen V.v _ this, bar_inK V.v _ this⟩
  have l6 : K.length ≤ 6 := Nat.le_trans V.len (by decide)
  refine ⟨V.v, hb, by omega, by have := V.f6; omega, gK, sK, gs, barOk6 V.cn l6 fun o ho => ?_, barOk6 V.cn l6 fun o ho => ?_, fun p hp => Nat.le_trans (hk p hp).1 (by decide)⟩
  · obtain ⟨p, hp, rfl⟩ := List.mem_map.mp ho
    obtain ⟨q, hq, rfl⟩ := List.mem_map.mp hp
    obtain ⟨h1, h2⟩ := hk q (List.mem_filter.mp hq).1
    exact ⟨Nat.le_trans (cut_len _ _) (Nat.le_trans h1 (by decide)), fun x hx => h2 x (mem_cut.1 hx).1⟩
  · refine ⟨left_keys (lost_keys fun k hk => Nat.le_trans (V.v.klen k hk) (by decide)) o ho, fun x hx => ?_⟩
    obtain ⟨o2, h2, e2⟩ := lsF_mem ho
    obtain ⟨o3, h3, rfl⟩ := List.mem_map.mp h2
    obtain ⟨o4, h4, e4⟩ := lsF_mem h3
    exact V.inK o4 (List.mem_filter.mp h4).1 x ((e4 x).1 (mem_cut.1 ((e2 x).1 hx)).1)
theorem hold_in : ∀ {K hs : KS} {k : Str}, K.length = hs.length → k ∈ K → holdOf K hs k ∈ hs
  | c :: K, [], k, h, _ => by cases h
  | c :: K, x :: hs, k, h, hk => by
    unfold holdOf
    rw [List.zip_cons_cons, List.find?_cons]
    by_cases e : c = k
    · subst e; simp
    · simp only [e, decide_false]
      have ih := hold_in (k := k) (Nat.succ.inj h) ((List.mem_cons.mp hk).resolve_left fun z => e z.symm)
      unfold holdOf at ih
      exact List.mem_cons_of_mem _ ih
theorem peopleOk4 {K : KS} {F : FM} {hs : KS} (V : Vlt4 K F) (hl : hs.length = K.length) : PeopleOk K F hs := by
  have h6 := V.f6
  have hb := V.b6
  have cH := cn_sset hs
  have lH : (sset hs).length ≤ 6 := by have := sset_len hs; have := V.len; omega
  have hin : ∀ o : KS, o.length ≤ 10 → (∀ x ∈ o, x ∈ K) → (o.map (holdOf K hs)).length ≤ 1000 ∧ ∀ y ∈ o.map (holdOf K hs), y ∈ sset hs := fun o h10 ho => ⟨by rw [List.length_map]; omega, fun y hy => by
    obtain ⟨x, hx, rfl⟩ := List.mem_map.mp hy
    exact sset_mem.2 (hold_in hl.symm (ho x hx))⟩
  refine ⟨V.v, hl, V.bar, by omega, few_sset (by rw [List.length_map]; omega) fun k hk => ?_, barOk6 cH lH fun o ho => ?_, by omega⟩
  · obtain ⟨o, ho, rfl⟩ := List.mem_map.mp hk
    exact (hin o (V.v.klen o ho) (V.inK o ho)).1
  · obtain ⟨b, hb, rfl⟩ := List.mem_map.mp ho
    obtain ⟨h1, h2⟩ := hin b (bar_klen V.v b hb) (bar_inK V.v b hb)
    exact ⟨Nat.le_trans (sset_len _) h1, fun y hy => h2 y (sset_mem.1 hy)⟩
theorem houseOk4 {K : KS} {F : FM} {tag : Str} {K2 : KS} {F2 : FM} (V : Vlt4 K F) (V2 : Vlt4 K2 F2) (l3 : K2.length ≤ 3) (ht : tag ∈ K) (ap : ∀ x ∈ K, x ≠ tag → x ∉ K2) : HouseROk K F tag K2 F2 := by
  have h6 := V.f6
  have h3 := anti3 l3 V2.least V2.inK
  have hb := V.b6
  have hb3 := anti3 l3 (least_barP F2) (bar_inK V2.v)
  have cW := cn_sset (cut K [tag] ++ K2)
  have hcl : (cut K [tag]).length ≤ 3 := by
    have h1 : (cut K [tag]).length < K.length := by
      unfold cut
      rw [List.length_filter_lt_length_iff_exists]
      exact ⟨tag, ht, by simp⟩
    have := V.len
    omega
  have lW : (cut K [tag] ++ K2).length ≤ 6 := by rw [List.length_append]; omega
  have lW2 : (sset (cut K [tag] ++ K2)).length ≤ 6 := Nat.le_trans (sset_len _) lW
  have hcn : ∀ o ∈ F, o.Nodup ∧ o.length ≤ 100 := fun o ho => ⟨(V.least.cn o ho).1, Nat.le_trans (V.v.klen o ho) (by decide)⟩
  have hcn2 : ∀ o ∈ F2, o.length ≤ 9 := fun o ho => Nat.le_trans (nodup_sub_len (V2.least.cn o ho).1 (V2.inK o ho)) (by omega)
  have hmem : ∀ w ∈ houseF F F2 tag, w.length ≤ 1000 ∧ ∀ x ∈ w, x ∈ sset (cut K [tag] ++ K2) := fun w hw => by
    rw [houseF_eq] at hw
    obtain ⟨o, ho, hw⟩ := List.mem_flatMap.mp hw
    refine ⟨?_, fun x hx => ?_⟩
    · have := ways_keys hcn2 (by decide) o w hw
      have := V.v.klen o ho
      have := Nat.mul_le_mul_right 9 this
      omega
    · rcases ways_mem o w hw x hx with ⟨h1, h2⟩ | ⟨h1, k, hk, hx⟩
      · exact sset_mem.2 (List.mem_append_left _ (mem_cut.2 ⟨V.inK o ho x h1, fun z => h2 (List.mem_singleton.mp z)⟩))
      · exact sset_mem.2 (List.mem_append_right _ (V2.inK k hk x hx))
  have hlen : (houseF F F2 tag).length ≤ 18 := by
    rw [houseF_eq]
    have := flatMap_len (f := fun o => waysP (o.map (lotOf F2 tag))) (n := 3) (l := F) fun o ho => by
      rw [ways_len o (hcn o ho).1]
      split <;> omega
    omega
  refine ⟨⟨ht, V.cn.1, V2.cn.1, ap, by have := V.len; omega, by omega, by omega, by omega, hcn, hcn2, few_sset (by omega) fun k hk => (hmem k hk).1⟩, V.v, V2.v, V.bar, V2.bar, ?_, barOk6 cW lW2 fun o ho => ?_, by omega⟩
  · have := hFound_len (B := barP F) (tag := tag) hb3
    omega
  · obtain ⟨w, hw, e⟩ := lsF_mem ho
    exact ⟨lsF_keys (fun k hk => (hmem k hk).1) o ho, fun x hx => (hmem w hw).2 x ((e x).1 hx)⟩
theorem lotsOk4 {K : KS} {F : FM} (V : Vlt4 K F) : LotsOk K F := ⟨V.v, V.bar⟩
/-! ### by computing -/
def barChk : FM → FM → Bool
  | _, [] => true
  | found, o :: F => decide ((barL found o).length ≤ 76) && ((barL found o).all fun k => decide (k.length ≤ 1000)) && (found.all fun k => decide (k.length ≤ 1000)) && barChk (barStep found o) F
theorem barChk_at : ∀ {F found : FM}, barChk found F = true → ∀ (i : Nat) (h : i < F.length), Few (barL ((F.take i).foldl barStep found) F[i]) ∧ ∀ own ∈ (F.take i).foldl barStep found, own.length ≤ 1000
  | o :: F, found, h, i, hi => by
    unfold barChk at h
    simp only [Bool.and_eq_true, decide_eq_true_eq, List.all_eq_true] at h
    obtain ⟨⟨⟨h1, h2⟩, h3⟩, h4⟩ := h
    cases i with
    | zero => exact ⟨few_small h1 h2, h3⟩
    | succ i => exact barChk_at h4 i (Nat.lt_of_succ_lt_succ hi)
theorem barOk_chk {F : FM} (h : barChk [[]] F = true) : BarOk F := ⟨fun i hi => (barChk_at h i hi).1, fun i hi => (barChk_at h i hi).2⟩
end Vk

/-! ## VkHand -/
set_option Elab.async false
set_option linter.all false
set_option maxRecDepth 100000
set_option maxHeartbeats 1000000
/-! The part by hand: what is computed. -/
namespace Vk
open PySem PySem.Spec PyProof.Rows PySem.W L2 LamX StX
instance (a : KS) : Decidable (Cn a) := inferInstanceAs (Decidable (_ ∧ _))
instance (F : FM) : Decidable (Sd tupLe F) := inferInstanceAs (Decidable (_ ∧ _))
theorem v3 : Vlt4 k3 f3 := ⟨by decide +kernel, by decide +kernel, ⟨by unfold CnF; decide +kernel, by unfold Anti; decide +kernel, by decide +kernel⟩, by decide +kernel⟩
theorem v2 : Vlt4 k3 f2 := ⟨by decide +kernel, by decide +kernel, ⟨by unfold CnF; decide +kernel, by unfold Anti; decide +kernel, by decide +kernel⟩, by decide +kernel⟩
theorem v6 : Vlt k6 f6 := ⟨by decide +kernel, by decide +kernel, ⟨by unfold CnF; decide +kernel, by unfold Anti; decide +kernel, by decide +kernel⟩, by decide +kernel⟩
theorem bar3 : barP f3 = f3 := by decide +kernel
theorem bar6 : BarOk f6 := barOk_chk (by decide +kernel)
theorem b6len : (barP f6).length ≤ 36 := by decide +kernel
theorem loss6 : LossOk k6 f6 (locksP (barP f6)) ["a", "g"] ["c"] := ⟨v6, locksP_snd b6len, by rw [locks_len b6len]; have := b6len; omega, by decide +kernel, by decide +kernel, by decide +kernel, by decide +kernel, barOk_chk (by decide +kernel), barOk_chk (by decide +kernel), by decide +kernel⟩
theorem iBehind {K : KS} {F : FM} {hang : Hang} {g s : KS} (O : LossOk K F hang g s) : ph_behind [vD K F, .tuple [dS g, dS s]] (vD (cut (cut K g) s) (leftF (lostF F g) s)) := by
  have k1000 : ∀ k ∈ F, k.length ≤ 1000 := fun k hk => Nat.le_trans (O.v.klen k hk) (by decide)
  refine ⟨K, F, g, s, rfl, O.gs, O.gK, O.sK, k1000, few_sset (Nat.le_trans (List.length_filter_le _ _) O.fl) fun k hk => k1000 k (List.mem_filter.mp hk).1, few_sset (by rw [List.length_map]; exact Nat.le_trans (lost_len F g) O.fl) fun k hk' => ?_, lost_keys k1000, rfl⟩
  obtain ⟨o, ho, rfl⟩ := List.mem_map.mp hk'
  exact Nat.le_trans (cut_len o s) (lost_keys k1000 o ho)
def nPQR : KS := ["p", "q", "r"]
def leanP : Hang := nPQR.zip (barP f3)
theorem lean_snd : leanP.map (·.2) = barP f3 := by decide +kernel
def due1 : Hang := [("p", ["b"]), ("q", ["c"]), ("r", ["b", "c"])]
def due3 : Hang := [("r", ["b", "c"])]
def kBC : KS := ["b", "c"]
def fBC : FM := [["b", "c"]]
def fB_C : FM := [["b"], ["c"]]
theorem got1 : keptP leanP ["a"] [] = due1 := by decide +kernel
theorem got3 : keptP leanP [] ["a"] = due3 := by decide +kernel
theorem got2 : vD (cut (cut k3 ["a"]) []) (leftF (lostF f3 ["a"]) []) = vD kBC fBC := by
  have h1 : cut (cut k3 ["a"]) [] = kBC := by decide +kernel
  have h2 : leftF (lostF f3 ["a"]) [] = fBC := by decide +kernel
  rw [h1, h2]
theorem got4 : vD (cut (cut k3 []) ["a"]) (leftF (lostF f3 []) ["a"]) = vD kBC fB_C := by
  have h1 : cut (cut k3 []) ["a"] = kBC := by decide +kernel
  have h2 : leftF (lostF f3 []) ["a"] = fB_C := by decide +kernel
  rw [h1, h2]
def kKL : KS := ["k", "l"]
def fKL : FM := [["k"], ["l"]]
theorem vKL : Vlt4 kKL fKL := ⟨by decide +kernel, by decide +kernel, ⟨by unfold CnF; decide +kernel, by unfold Anti; decide +kernel, by decide +kernel⟩, by decide +kernel⟩
def ph_by_hand : Phi := fun ds z => ds = [] ∧ z = .bool true
theorem sem_by_hand (ds : List PyData) (z : PyData) (h : ph_by_hand ds z) : w__law_by_hand_right ph_law_six ph_law_three ph_hung ph_behind ph_law_kept ph_same ph_people_right ph_loss_right ph_house_right ph_law_locks ph_barriers ph_lots_right ph_law_two (fun _ => z = .none) (fun y => y = z)
    (startE ["_law_three_here", "_law_six_here", "_law_lean_so", "_law_got", "_law_due"] ds) := by
  obtain ⟨rfl, rfl⟩ := h
  have L1 : LossOk k3 f3 leanP ["a"] [] := lossOk4 v3 lean_snd (by decide +kernel) (by decide +kernel) (by decide +kernel)
  have L2 : LossOk k3 f3 leanP [] ["a"] := lossOk4 v3 lean_snd (by decide +kernel) (by decide +kernel) (by decide +kernel)
  have L3 : LossOk k3 f3 leanP ["c"] ["a"] := lossOk4 v3 lean_snd (by decide +kernel) (by decide +kernel) (by decide +kernel)
  have P3 : PeopleOk k3 f3 ["zoe", "ann", "zoe"] := peopleOk4 v3 (by decide +kernel)
  have H3 : HouseROk k3 f3 "b" kKL fKL := houseOk4 v3 vKL (by decide +kernel) (by decide +kernel) (by decide +kernel)
  have b2 := iBehind L1
  have b4 := iBehind L2
  rw [got2] at b2
  rw [got4] at b4
  have hll : leanP.length ≤ 100000 := by decide +kernel
  refine ⟨[.d (vD k3 f3), .d (vD k6 f6)], ⟨_, _, ⟨rfl, rfl⟩, ⟨_, _, ⟨rfl, rfl⟩, rfl, rfl⟩, rfl⟩, rfl, ?_⟩
  refine ⟨hangD leanP, iCallN (i2 (e := dS nPQR) rfl (iTup (iCons rfl (i2 rfl rfl)) ok3)) rfl ⟨k3, f3, _, nPQR, rfl, isS_dS _, v3.bar, by decide +kernel, by decide +kernel, rfl⟩, ?_⟩
  have tA : ∀ {ρ : DEnv}, rTup (rCons (rK (.str "a")) rNil) ρ (dS ["a"]) := fun {ρ} => iTup (i1 rfl) ok1
  have t0 : ∀ {ρ : DEnv}, rTup rNil ρ (dS []) := fun {ρ} => iTup iNil (by decide)
  have ok4 : ∀ {x y z w : PyData}, [x, y, z, w].length ≤ 1000000 := fun {x y z w} => show 4 ≤ 1000000 by decide
  refine ⟨.list [hangD due1, vD kBC fBC, hangD due3, vD kBC fB_C], iLst (iCons (iCallN (iCons rfl (i2 tA t0)) rfl ⟨leanP, _, _, ["a"], [], rfl, isS_dS _, isS_dS _, hll, by rw [got1]⟩) (iCons (iCallN (i2 rfl (iTup (i2 tA t0) ok2)) rfl b2)
    (i2 (iCallN (iCons rfl (i2 t0 tA)) rfl ⟨leanP, _, _, [], ["a"], rfl, isS_dS _, isS_dS _, hll, by rw [got3]⟩) (iCallN (i2 rfl (iTup (i2 t0 tA) ok2)) rfl b4)))) ok4, ?_⟩
  have tp : ∀ {ρ : DEnv} {a b : PyData} {R R' : RE}, R ρ a → R' ρ b → rTup (rCons R (rCons R' rNil)) ρ (.tuple [a, b]) := fun {ρ a b R R'} h h' => iTup (i2 h h') ok2
  have t1 : ∀ {ρ : DEnv} {a : PyData} {R : RE}, R ρ a → rTup (rCons R rNil) ρ (.tuple [a]) := fun {ρ a R} h => iTup (i1 h) ok1
  have tBC : ∀ {ρ : DEnv}, rTup (rCons (rK (.str "b")) (rCons (rK (.str "c")) rNil)) ρ (dS kBC) := fun {ρ} => tp rfl rfl
  refine ⟨.list [hangD due1, vD kBC fBC, hangD due3, vD kBC fB_C], iLst (iCons (iTup (iCons (tp rfl (t1 rfl)) (i2 (tp rfl (t1 rfl)) (tp rfl tBC))) ok3) (iCons (tp tBC (t1 tBC)) (i2 (t1 (tp rfl tBC)) (tp tBC (tp (t1 rfl) (t1 rfl)))))) ok4, ?_⟩
  have nd : Nice 4 (.list [hangD due1, vD kBC fBC, hangD due3, vD kBC fB_C]) := nice_list ok4 fun x hx => by
    rcases List.mem_cons.mp hx with rfl | hx
    · exact nice_hangD (by decide +kernel) (by decide +kernel)
    rcases List.mem_cons.mp hx with rfl | hx
    · exact nice_vD (by decide +kernel) (by decide +kernel) (by decide +kernel)
    rcases List.mem_cons.mp hx with rfl | hx
    · exact nice_hangD (by decide +kernel) (by decide +kernel)
    · rw [List.mem_singleton.mp hx]
      exact nice_vD (by decide +kernel) (by decide +kernel) (by decide +kernel)
  refine ⟨false, ⟨false, iCallN (i2 rfl rfl) rfl (iSame nd (by decide)), .inl ⟨rfl, false, iCallN (i2 (e := dS ["zoe", "ann", "zoe"]) rfl (iTup (iCons rfl (i2 rfl rfl)) ok3)) rfl ⟨k3, f3, _, rfl, P3, rfl⟩, .inl ⟨rfl, iCallN (iCons rfl (iCons rfl (i2 (d := dS ["c"]) (e := dS ["a"]) (t1 rfl) (t1 rfl)))) rfl ⟨k3, f3, leanP, ["c"], ["a"], rfl, L3, rfl⟩⟩⟩⟩, .inr ⟨rfl, ?_⟩⟩
  refine ⟨false, ⟨false, iCallN (iCons rfl (i2 (e := vD kKL fKL) rfl (tp (tp rfl rfl) (tp (t1 rfl) (t1 rfl))))) rfl ⟨k3, f3, "b", kKL, fKL, rfl, H3, rfl⟩, .inl ⟨rfl, iCallN (iCons rfl (iCons (d := hangD (locksP (barP f6))) (iCallN (i1 (iCallN (i1 rfl) rfl ⟨k6, f6, rfl, bar6, rfl⟩)) rfl ⟨_, barP f6, rfl, isF_dF _, rfl⟩) (i2 (d := dS ["a", "g"]) (e := dS ["c"]) (tp rfl rfl) (t1 rfl)))) rfl ⟨k6, f6, _, ["a", "g"], ["c"], rfl, loss6, rfl⟩⟩⟩, .inr ⟨rfl, ?_⟩⟩
  show wRet _ (fun _ => PyData.bool true = .none) _ _
  exact iRet ⟨true, iCallN (i1 rfl) rfl ⟨k3, f3, rfl, lotsOk4 v3, rfl⟩, .inl ⟨rfl, iCallN (i1 (d := vD k3 f2) ⟨rfl, rfl⟩) rfl ⟨k3, f2, rfl, lotsOk4 v2, rfl⟩⟩⟩
/-! ### the ends of the recursions -/
theorem dd0 {d : PyData} (h : Dd 0 d) : seqOf d = none := by
  cases d with
  | list xs => have := h.2; rw [PyData.depth] at this; omega
  | tuple xs => have := h.2; rw [PyData.depth] at this; omega
  | _ => rfl
theorem sem_tupled0 (ds : List PyData) (z : PyData) (h : ph_tup 0 ds z) : w_tupled (fun _ _ => False) (fun _ => z = .none) (fun y => y = z) (startE ["value", "part"] ds) := by
  obtain ⟨d, rfl, hd, rfl⟩ := h
  rw [tup_no (dd0 hd)]
  exact iRet ⟨false, ⟨d, rfl, hd.1, by rw [isTy_no (dd0 hd)]⟩, .inr ⟨rfl, rfl⟩⟩
theorem sem_law_same0 (ds : List PyData) (z : PyData) (h : ph_samN 0 ds z) : w__law_same (fun _ _ => False) (fun _ => z = .none) (fun y => y = z) (startE ["_law_got", "_law_goal", "_law_mine_so", "_law_own"] ds) := by
  obtain ⟨d, rfl, hd, rfl⟩ := h
  have nd := hd.dd.1
  have e := dd0 hd.dd
  refine ⟨false, ⟨d, rfl, nd, by rw [isTy_no e]⟩, .inr ⟨rfl, ?_⟩⟩
  show wSeq _ _ (fun _ => PyData.bool true = .none) _ _
  cases d with
  | list ys => cases e
  | tuple ys => cases e
  | dict kvs => simp [noDict] at nd
  | none =>
    refine ⟨true, ⟨true, ⟨.none, rfl, .inl ⟨rfl, rfl⟩⟩, .inr ⟨rfl, rfl⟩⟩, .inl ⟨rfl, ?_⟩⟩
    exact ⟨_, ⟨true, iBin rfl rfl ⟨rfl, rfl, rfl⟩, .inl ⟨rfl, true, iBin ⟨.none, rfl, rfl, rfl⟩ ⟨.none, rfl, rfl, rfl⟩ (eq_bb _), .inl ⟨rfl, iBin ⟨.none, rfl, .inl ⟨rfl, rfl⟩⟩ ⟨.none, rfl, .inl ⟨rfl, rfl⟩⟩ (eq_bb _)⟩⟩⟩, rfl⟩
  | bool b =>
    refine ⟨true, ⟨false, ⟨.bool b, rfl, .inr ⟨(fun z => by cases z), rfl⟩⟩, .inl ⟨rfl, ⟨.bool b, rfl, rfl, rfl⟩⟩⟩, .inl ⟨rfl, ?_⟩⟩
    exact ⟨_, ⟨true, iBin rfl rfl (eq_bb b), .inl ⟨rfl, true, iBin ⟨.bool b, rfl, rfl, rfl⟩ ⟨.bool b, rfl, rfl, rfl⟩ (eq_bb _), .inl ⟨rfl, iBin ⟨.bool b, rfl, .inr ⟨(fun z => by cases z), rfl⟩⟩ ⟨.bool b, rfl, .inr ⟨(fun z => by cases z), rfl⟩⟩ (eq_bb _)⟩⟩⟩, rfl⟩
  | str x =>
    refine ⟨true, ⟨false, ⟨.str x, rfl, .inr ⟨(fun z => by cases z), rfl⟩⟩, .inl ⟨rfl, ⟨.str x, rfl, rfl, rfl⟩⟩⟩, .inl ⟨rfl, ?_⟩⟩
    exact ⟨_, ⟨true, iBin rfl rfl ⟨rfl, rfl, by rw [eqv_str]; simp⟩, .inl ⟨rfl, true, iBin ⟨.str x, rfl, rfl, rfl⟩ ⟨.str x, rfl, rfl, rfl⟩ (eq_bb _), .inl ⟨rfl, iBin ⟨.str x, rfl, .inr ⟨(fun z => by cases z), rfl⟩⟩ ⟨.str x, rfl, .inr ⟨(fun z => by cases z), rfl⟩⟩ (eq_bb _)⟩⟩⟩, rfl⟩
  | int i =>
    refine ⟨false, ⟨false, ⟨.int i, rfl, .inr ⟨(fun z => by cases z), rfl⟩⟩, .inl ⟨rfl, ⟨.int i, rfl, rfl, rfl⟩⟩⟩, .inr ⟨rfl, ?_⟩⟩
    show wRet _ (fun _ => PyData.bool true = .none) _ _
    exact ⟨_, ⟨true, ⟨.int i, rfl, rfl, rfl⟩, .inl ⟨rfl, true, ⟨false, ⟨.int i, rfl, rfl, rfl⟩, rfl⟩, .inl ⟨rfl, iBin rfl rfl (eq_ii i)⟩⟩⟩, rfl⟩
end Vk

/-! ## VkChain -/
set_option Elab.async false
set_option linter.all false
set_option maxRecDepth 100000
set_option maxHeartbeats 1000000
/-! Printed by gen_chain.py: each def keeps its promise. -/
namespace Vk
open PySem PySem.Spec PyProof.Rows L2 LamX StX

/-- the text at its names -/
structure Txs (K : PySem.W.Frag) (mg : Str → Option Value) (c : Addr) : Prop where
  bl : Bl mg
  t_set_of : Tx K mg "set_of" s_set_of
  t_tupled : Tx K mg "tupled" s_tupled
  t_is_within : Tx K mg "is_within" s_is_within
  t_subsets : Tx K mg "subsets" s_subsets
  t_by_size : ∃ (f : Addr) (fd : FuncData), mg "by_size" = some (.ref f) ∧ Fun K "by_size" "by_size" s_by_size f fd ∧ fd.code = .ref c
  t_least_sets : Tx K mg "least_sets" s_least_sets
  t_check_keys : Tx K mg "check_keys" s_check_keys
  t_has_opener : Tx K mg "has_opener" s_has_opener
  t_open_table : Tx K mg "open_table" s_open_table
  t_least_vault : Tx K mg "least_vault" s_least_vault
  t_meets : Tx K mg "meets" s_meets
  t_barriers_of : Tx K mg "barriers_of" s_barriers_of
  t_barriers : Tx K mg "barriers" s_barriers
  t_undoes : Tx K mg "undoes" s_undoes
  t_undone_vault : Tx K mg "undone_vault" s_undone_vault
  t_is_right : Tx K mg "is_right" s_is_right
  t_wrong_held : Tx K mg "wrong_held" s_wrong_held
  t_fewest_locks : Tx K mg "fewest_locks" s_fewest_locks
  t_hung : Tx K mg "hung" s_hung
  t_trimmed : Tx K mg "trimmed" s_trimmed
  t_peoples_vault : Tx K mg "peoples_vault" s_peoples_vault
  t_house : Tx K mg "house" s_house
  t_put_in : Tx K mg "put_in" s_put_in
  t_ways_of : Tx K mg "ways_of" s_ways_of
  t_mattering : Tx K mg "mattering" s_mattering
  t_parts_by : Tx K mg "parts_by" s_parts_by
  t_against : Tx K mg "against" s_against
  t_committees : Tx K mg "committees" s_committees
  t_keys_without : Tx K mg "keys_without" s_keys_without
  t_lost : Tx K mg "lost" s_lost
  t_left_in : Tx K mg "left_in" s_left_in
  t_behind : Tx K mg "behind" s_behind
  t__law_box : Tx K mg "_law_box" s_law_box
  t__law_take : Tx K mg "_law_take" s_law_take
  t__law_cells : Tx K mg "_law_cells" s_law_cells
  t__law_of : Tx K mg "_law_of" s_law_of
  t__law_same : Tx K mg "_law_same" s_law_same
  t__law_pick : Tx K mg "_law_pick" s_law_pick
  t__law_subs : Tx K mg "_law_subs" s_law_subs
  t__law_inside : Tx K mg "_law_inside" s_law_inside
  t__law_least : Tx K mg "_law_least" s_law_least
  t__law_vault : Tx K mg "_law_vault" s_law_vault
  t__law_opens : Tx K mg "_law_opens" s_law_opens
  t__law_three : Tx K mg "_law_three" s_law_three
  t__law_two : Tx K mg "_law_two" s_law_two
  t__law_six : Tx K mg "_law_six" s_law_six
  t__law_idle : Tx K mg "_law_idle" s_law_idle
  t__law_locks : Tx K mg "_law_locks" s_law_locks
  t__law_kept : Tx K mg "_law_kept" s_law_kept
  t__law_loss_right : Tx K mg "_law_loss_right" s_law_loss_right
  t__law_house_right : Tx K mg "_law_house_right" s_law_house_right
  t__law_people_right : Tx K mg "_law_people_right" s_law_people_right
  t__law_lots_right : Tx K mg "_law_lots_right" s_law_lots_right
  t__law_by_hand_right : Tx K mg "_law_by_hand_right" s_law_by_hand_right
  t__law_right : Tx K mg "_law_right" s_law_right
  t_law : Tx K mg "law" s_law
section
variable {P : Program} {w : World} {K : PySem.W.Frag} {mg : Str → Option Value} {base : Heap} {T : TabL} {c Pt : Addr}
/-- the code table of by_size -/
structure Tb (T : TabL) (base : Heap) (mg : Str → Option Value) (c Pt : Addr) : Prop where
  m : (Pt, qBy) ∈ T
  u : ∀ p ∈ T, p.1 = Pt → p.2 = qBy
  t : TabB base mg c Pt
theorem PDef.no {x : Str} {st : Stmt} {ps : List Str} (F : Tx K mg x st) (hb : BindsSt st x ps) (k : Nat) : PDef P w K mg base T x k ps.length (fun _ _ => False) := by
  obtain ⟨f, fd, hm, F⟩ := F
  exact ⟨f, fd, ps, hm, F.kp, F.binds hb, rfl, ⟨fun vs H Q E ⟨_, _, _, _, _, _, _, h, _⟩ => h.elim, fun A outer s H args us vs Q E hr e0 hb r ⟨_, _, _, _, _, _, _, h, _⟩ => h.elim⟩⟩
theorem ok_by_size (X : Txs K mg c) (Y : Tb T base mg c Pt) : PDef P w K mg base T "by_size" 4 1 ph_by_size := PDef.makeC X.t_by_size sc_by_size bd_by_size (fun f A outer s H E hr => body_by_size X.bl Y.m Y.u Y.t f A outer s H E hr) (fun ds z _ h => sem_by_size ds z h)
theorem ok_tup (X : Txs K mg c) : ∀ n : Nat, n ≤ 50 → PDef P w K mg base T "tupled" (n + 1) 1 (ph_tup n)
  | 0, _ => PDef.make X.t_tupled sc_tupled bd_tupled (body_tupled (k := 0) (by decide) X.bl (PDef.no X.t_tupled bd_tupled 0)) (fun ds z _ h => sem_tupled0 ds z h)
  | n + 1, hn => PDef.make X.t_tupled sc_tupled bd_tupled (body_tupled (k := n + 1) (by omega) X.bl (ok_tup X n (by omega))) (fun ds z _ h => sem_tupled ds z h)
theorem ok_tupled (X : Txs K mg c) : PDef P w K mg base T "tupled" 12 1 ph_tupled := ok_tup X 11 (by decide)
theorem ok_tupledF (X : Txs K mg c) : PDefF P w K mg base T "tupled" 12 1 ph_tupF := by
  have D : PDef P w K mg base T "tupled" 11 1 (ph_tup 10) := ok_tup X 10 (by decide)
  have B := X.bl
  refine PDefF.make (k := 11) (R := fun ρ ds => rOf (rIsi2 (rVar 0) "list" "tuple") ρ true ∧ (rLst' (rLc [1] (rSeq (rVar 0)) (.nm 1) rYes (rCallN 1 (ph_tup 10) (rCons (rVar 1) rNil)))) ρ (.list ds)) X.t_tupled sc_tupled bd_tupled (fun f cdv A outer s H E hr => ?_) fun ds es _ h => ?_
  · exact pss_one (ps_ret (pe_ifF (dt_val (de_isi2 (C := "list") (C' := "tuple") (by decide) (by decide) (by rfl) B.isinstance_ (de_var (pv 0)) (pe_bltn (by rfl) B.list_ rfl rfl) (pe_bltn (by rfl) B.tuple_ rfl rfl)))
      (pe_tupleF (by rfl) B.tuple_ (de_lc rfl sc_tupled.nd (di_seq (de_var (pv 0))) (own := [("part", 1)]) (blkOk_by (by kernel_rfl)) (b := (.nm 1)) (by decide) (fun _ _ _ _ _ => (pg_name (i := 1) sc_tupled.nd rfl (by first | exact .inl rfl | exact .inr rfl))) (fun _ _ _ _ _ => dts_nil) (fun _ _ _ _ _ => (de_callD D hr (Nat.le_refl _) (by rfl) (da_cons (de_var (pv 1)) da_nil))))) (de_var (pv 0))))
  · obtain ⟨d, xs, rfl, hd, e, rfl⟩ := h
    exact ⟨⟨d, rfl, hd.1, by rw [isTy_seq e]⟩, iLst' (iLc (iSeq rfl e) (lc_each xs fun x hx => iCallN (i1 rfl) rfl ⟨x, rfl, dd_items hd e x hx, rfl⟩))⟩
theorem ok_sam (X : Txs K mg c) : ∀ n : Nat, n ≤ 50 → PDef P w K mg base T "_law_same" (n + 1) 2 (ph_samN n)
  | 0, _ => PDef.make X.t__law_same sc__law_same bd__law_same (body__law_same (k := 0) (by decide) X.bl (PDef.no X.t__law_same bd__law_same 0)) (fun ds z _ h => sem_law_same0 ds z h)
  | n + 1, hn => PDef.make X.t__law_same sc__law_same bd__law_same (body__law_same (k := n + 1) (by omega) X.bl (ok_sam X n (by omega))) (fun ds z _ h => sem_law_same ds z h)
theorem ok__law_same (X : Txs K mg c) : PDef P w K mg base T "_law_same" 14 2 ph_same := ok_sam X 13 (by decide)
theorem ok_set_of (X : Txs K mg c) : PDef P w K mg base T "set_of" 1 1 ph_set_of := PDef.make X.t_set_of sc_set_of bd_set_of (body_set_of X.bl ) (fun ds z _ h => sem_set_of ds z h)
theorem ok_is_within (X : Txs K mg c) : PDef P w K mg base T "is_within" 1 2 ph_is_within := PDef.make X.t_is_within sc_is_within bd_is_within (body_is_within X.bl ) (fun ds z _ h => sem_is_within ds z h)
theorem ok_subsets (X : Txs K mg c) : PDef P w K mg base T "subsets" 1 1 ph_subsets := PDef.make X.t_subsets sc_subsets bd_subsets (body_subsets X.bl ) (fun ds z _ h => sem_subsets ds z h)
theorem ok_least_sets (X : Txs K mg c) (Y : Tb T base mg c Pt) : PDef P w K mg base T "least_sets" 5 1 ph_least_sets := PDef.make X.t_least_sets sc_least_sets bd_least_sets (body_least_sets X.bl (ok_by_size X Y) (ok_set_of X) (ok_is_within X)) (fun ds z _ h => sem_least_sets ds z h)
theorem ok_check_keys (X : Txs K mg c) : PDef P w K mg base T "check_keys" 1 2 ph_check_keys := PDef.make X.t_check_keys sc_check_keys bd_check_keys (body_check_keys X.bl ) (fun ds z _ h => sem_check_keys ds z h)
theorem ok_has_opener (X : Txs K mg c) : PDef P w K mg base T "has_opener" 2 2 ph_has_opener := PDef.make X.t_has_opener sc_has_opener bd_has_opener (body_has_opener X.bl (ok_is_within X)) (fun ds z _ h => sem_has_opener ds z h)
theorem ok_open_table (X : Txs K mg c) : PDef P w K mg base T "open_table" 13 1 ph_open_table := PDef.make X.t_open_table sc_open_table bd_open_table (body_open_table X.bl (ok_tupled X) (ok_subsets X) (ok_has_opener X)) (fun ds z _ h => sem_open_table ds z h)
theorem ok_least_vault (X : Txs K mg c) (Y : Tb T base mg c Pt) : PDef P w K mg base T "least_vault" 13 2 ph_least_vault := PDef.make X.t_least_vault sc_least_vault bd_least_vault (body_least_vault X.bl (ok_least_sets X Y) (ok_tupled X) (ok_set_of X)) (fun ds z _ h => sem_least_vault ds z h)
theorem ok_meets (X : Txs K mg c) : PDef P w K mg base T "meets" 1 2 ph_meets := PDef.make X.t_meets sc_meets bd_meets (body_meets X.bl ) (fun ds z _ h => sem_meets ds z h)
theorem ok_barriers_of (X : Txs K mg c) (Y : Tb T base mg c Pt) : PDef P w K mg base T "barriers_of" 6 1 ph_barriers_of := PDef.make X.t_barriers_of sc_barriers_of bd_barriers_of (body_barriers_of X.bl (ok_meets X) (ok_set_of X) (ok_least_sets X Y)) (fun ds z _ h => sem_barriers_of ds z h)
theorem ok_barriers (X : Txs K mg c) (Y : Tb T base mg c Pt) : PDef P w K mg base T "barriers" 13 1 ph_barriers := PDef.make X.t_barriers sc_barriers bd_barriers (body_barriers X.bl (ok_barriers_of X Y) (ok_tupled X)) (fun ds z _ h => sem_barriers ds z h)
theorem ok_undoes (X : Txs K mg c) : PDef P w K mg base T "undoes" 1 2 ph_undoes := PDef.make X.t_undoes sc_undoes bd_undoes (body_undoes X.bl ) (fun ds z _ h => sem_undoes ds z h)
theorem ok_undone_vault (X : Txs K mg c) (Y : Tb T base mg c Pt) : PDef P w K mg base T "undone_vault" 13 2 ph_undone_vault := PDef.make X.t_undone_vault sc_undone_vault bd_undone_vault (body_undone_vault X.bl (ok_barriers_of X Y) (ok_tupled X)) (fun ds z _ h => sem_undone_vault ds z h)
theorem ok_wrong_held (X : Txs K mg c) (Y : Tb T base mg c Pt) : PDef P w K mg base T "wrong_held" 14 2 ph_wrong_held := PDef.make X.t_wrong_held sc_wrong_held bd_wrong_held (body_wrong_held X.bl (ok_by_size X Y) (ok_open_table X) (ok_undoes X)) (fun ds z _ h => sem_wrong_held ds z h)
theorem ok_is_right (X : Txs K mg c) (Y : Tb T base mg c Pt) : PDef P w K mg base T "is_right" 15 2 ph_is_right := PDef.make X.t_is_right sc_is_right bd_is_right (body_is_right X.bl (ok_wrong_held X Y)) (fun ds z _ h => sem_is_right ds z h)
theorem ok_fewest_locks (X : Txs K mg c) (Y : Tb T base mg c Pt) : PDef P w K mg base T "fewest_locks" 14 1 ph_fewest_locks := PDef.make X.t_fewest_locks sc_fewest_locks bd_fewest_locks (body_fewest_locks X.bl (ok_barriers X Y)) (fun ds z _ h => sem_fewest_locks ds z h)
theorem ok_hung (X : Txs K mg c) (Y : Tb T base mg c Pt) : PDef P w K mg base T "hung" 15 2 ph_hung := PDef.make X.t_hung sc_hung bd_hung (body_hung X.bl (ok_fewest_locks X Y) (ok_tupled X) (ok_barriers X Y)) (fun ds z _ h => sem_hung ds z h)
theorem ok_trimmed (X : Txs K mg c) (Y : Tb T base mg c Pt) : PDef P w K mg base T "trimmed" 13 1 ph_trimmed := PDef.make X.t_trimmed sc_trimmed bd_trimmed (body_trimmed X.bl (ok_least_sets X Y) (ok_tupled X)) (fun ds z _ h => sem_trimmed ds z h)
theorem ok_peoples_vault (X : Txs K mg c) (Y : Tb T base mg c Pt) : PDef P w K mg base T "peoples_vault" 14 2 ph_peoples_vault := PDef.make X.t_peoples_vault sc_peoples_vault bd_peoples_vault (body_peoples_vault X.bl (ok_least_vault X Y) (ok_set_of X)) (fun ds z _ h => sem_peoples_vault ds z h)
theorem ok_ways_of (X : Txs K mg c) : PDef P w K mg base T "ways_of" 1 1 ph_ways_of := PDef.make X.t_ways_of sc_ways_of bd_ways_of (body_ways_of X.bl ) (fun ds z _ h => sem_ways_of ds z h)
theorem ok_house (X : Txs K mg c) (Y : Tb T base mg c Pt) : PDef P w K mg base T "house" 14 2 ph_house := PDef.make X.t_house sc_house bd_house (body_house X.bl (ok_check_keys X) (ok_tupledF X) (ok_set_of X) (ok_tupled X) (ok_ways_of X) (ok_least_vault X Y)) (fun ds z _ h => sem_house ds z h)
theorem ok_put_in (X : Txs K mg c) (Y : Tb T base mg c Pt) : PDef P w K mg base T "put_in" 15 3 ph_put_in := PDef.make X.t_put_in sc_put_in bd_put_in (body_put_in X.bl (ok_house X Y)) (fun ds z _ h => sem_put_in ds z h)
theorem ok_mattering (X : Txs K mg c) : PDef P w K mg base T "mattering" 13 1 ph_mattering := PDef.make X.t_mattering sc_mattering bd_mattering (body_mattering X.bl (ok_tupled X)) (fun ds z _ h => sem_mattering ds z h)
theorem ok_parts_by (X : Txs K mg c) : PDef P w K mg base T "parts_by" 1 2 ph_parts_by := PDef.make X.t_parts_by sc_parts_by bd_parts_by (body_parts_by X.bl ) (fun ds z _ h => sem_parts_by ds z h)
theorem ok_against (X : Txs K mg c) : PDef P w K mg base T "against" 2 3 ph_against := PDef.make X.t_against sc_against bd_against (body_against X.bl (ok_parts_by X) (ok_set_of X)) (fun ds z _ h => sem_against ds z h)
theorem ok_committees (X : Txs K mg c) : PDef P w K mg base T "committees" 14 1 ph_committees := PDef.make X.t_committees sc_committees bd_committees (body_committees X.bl (ok_open_table X) (ok_subsets X) (ok_mattering X) (ok_against X)) (fun ds z _ h => sem_committees ds z h)
theorem ok_keys_without (X : Txs K mg c) : PDef P w K mg base T "keys_without" 13 2 ph_keys_without := PDef.make X.t_keys_without sc_keys_without bd_keys_without (body_keys_without X.bl (ok_tupled X)) (fun ds z _ h => sem_keys_without ds z h)
theorem ok_lost (X : Txs K mg c) (Y : Tb T base mg c Pt) : PDef P w K mg base T "lost" 14 2 ph_lost := PDef.make X.t_lost sc_lost bd_lost (body_lost X.bl (ok_check_keys X) (ok_tupled X) (ok_least_vault X Y) (ok_keys_without X)) (fun ds z _ h => sem_lost ds z h)
theorem ok_left_in (X : Txs K mg c) (Y : Tb T base mg c Pt) : PDef P w K mg base T "left_in" 14 2 ph_left_in := PDef.make X.t_left_in sc_left_in bd_left_in (body_left_in X.bl (ok_check_keys X) (ok_tupled X) (ok_least_vault X Y) (ok_keys_without X)) (fun ds z _ h => sem_left_in ds z h)
theorem ok_behind (X : Txs K mg c) (Y : Tb T base mg c Pt) : PDef P w K mg base T "behind" 15 2 ph_behind := PDef.make X.t_behind sc_behind bd_behind (body_behind X.bl (ok_tupled X) (ok_check_keys X) (ok_left_in X Y) (ok_lost X Y)) (fun ds z _ h => sem_behind ds z h)
theorem ok__law_subs (X : Txs K mg c) : PDef P w K mg base T "_law_subs" 1 1 ph_law_subs := PDef.make X.t__law_subs sc__law_subs bd__law_subs (body__law_subs X.bl ) (fun ds z _ h => sem_law_subs ds z h)
theorem ok__law_inside (X : Txs K mg c) : PDef P w K mg base T "_law_inside" 1 2 ph_law_inside := PDef.make X.t__law_inside sc__law_inside bd__law_inside (body__law_inside X.bl ) (fun ds z _ h => sem_law_inside ds z h)
theorem ok__law_least (X : Txs K mg c) : PDef P w K mg base T "_law_least" 2 1 ph_law_least := PDef.make X.t__law_least sc__law_least bd__law_least (body__law_least X.bl (ok__law_inside X)) (fun ds z _ h => sem_law_least ds z h)
theorem ok__law_opens (X : Txs K mg c) : PDef P w K mg base T "_law_opens" 2 2 ph_law_opens := PDef.make X.t__law_opens sc__law_opens bd__law_opens (body__law_opens X.bl (ok__law_inside X)) (fun ds z _ h => sem_law_opens ds z h)
theorem ok__law_three (X : Txs K mg c) : PDef P w K mg base T "_law_three" 1 0 ph_law_three := PDef.make X.t__law_three sc__law_three bd__law_three (body__law_three X.bl ) (fun ds z _ h => sem_law_three ds z h)
theorem ok__law_two (X : Txs K mg c) : PDef P w K mg base T "_law_two" 1 0 ph_law_two := PDef.make X.t__law_two sc__law_two bd__law_two (body__law_two X.bl ) (fun ds z _ h => sem_law_two ds z h)
theorem ok__law_six (X : Txs K mg c) : PDef P w K mg base T "_law_six" 1 0 ph_law_six := PDef.make X.t__law_six sc__law_six bd__law_six (body__law_six X.bl ) (fun ds z _ h => sem_law_six ds z h)
theorem ok__law_idle (X : Txs K mg c) : PDef P w K mg base T "_law_idle" 1 1 ph_law_idle := PDef.make X.t__law_idle sc__law_idle bd__law_idle (body__law_idle X.bl ) (fun ds z _ h => sem_law_idle ds z h)
theorem ok__law_locks (X : Txs K mg c) : PDef P w K mg base T "_law_locks" 1 1 ph_law_locks := PDef.make X.t__law_locks sc__law_locks bd__law_locks (body__law_locks X.bl ) (fun ds z _ h => sem_law_locks ds z h)
theorem ok__law_kept (X : Txs K mg c) : PDef P w K mg base T "_law_kept" 1 3 ph_law_kept := PDef.make X.t__law_kept sc__law_kept bd__law_kept (body__law_kept X.bl ) (fun ds z _ h => sem_law_kept ds z h)
theorem ok__law_loss_right (X : Txs K mg c) (Y : Tb T base mg c Pt) : PDef P w K mg base T "_law_loss_right" 16 4 ph_loss_right := PDef.make X.t__law_loss_right sc__law_loss_right bd__law_loss_right (body__law_loss_right X.bl (ok_behind X Y) (ok__law_kept X) (ok_is_right X Y) (ok__law_same X) (ok_undone_vault X Y) (ok_trimmed X Y) (ok_fewest_locks X Y) (ok_left_in X Y) (ok_lost X Y)) (fun ds z _ h => sem_loss_right ds z h)
theorem ok__law_house_right (X : Txs K mg c) (Y : Tb T base mg c Pt) : PDef P w K mg base T "_law_house_right" 16 3 ph_house_right := PDef.make X.t__law_house_right sc__law_house_right bd__law_house_right (body__law_house_right X.bl (ok_put_in X Y) (ok_barriers X Y) (ok__law_locks X) (ok_is_right X Y) (ok__law_same X) (ok_trimmed X Y)) (fun ds z _ h => sem_house_right ds z h)
theorem ok__law_people_right (X : Txs K mg c) (Y : Tb T base mg c Pt) : PDef P w K mg base T "_law_people_right" 15 2 ph_people_right := PDef.make X.t__law_people_right sc__law_people_right bd__law_people_right (body__law_people_right X.bl (ok_barriers X Y) (ok_peoples_vault X Y) (ok__law_same X) (ok_undone_vault X Y) (ok__law_locks X)) (fun ds z _ h => sem_people_right ds z h)
theorem ok__law_lots_right (X : Txs K mg c) (Y : Tb T base mg c Pt) : PDef P w K mg base T "_law_lots_right" 15 1 ph_lots_right := PDef.make X.t__law_lots_right sc__law_lots_right bd__law_lots_right (body__law_lots_right X.bl (ok_barriers X Y) (ok__law_subs X) (ok__law_idle X) (ok__law_opens X) (ok__law_same X) (ok_committees X)) (fun ds z _ h => sem_lots_right ds z h)
theorem ok__law_by_hand_right (X : Txs K mg c) (Y : Tb T base mg c Pt) : PDef P w K mg base T "_law_by_hand_right" 17 0 ph_by_hand := PDef.make X.t__law_by_hand_right sc__law_by_hand_right bd__law_by_hand_right (body__law_by_hand_right X.bl (ok__law_six X) (ok__law_three X) (ok_hung X Y) (ok_behind X Y) (ok__law_kept X) (ok__law_same X) (ok__law_people_right X Y) (ok__law_loss_right X Y) (ok__law_house_right X Y) (ok__law_locks X) (ok_barriers X Y) (ok__law_lots_right X Y) (ok__law_two X)) (fun ds z _ h => sem_by_hand ds z h)
end
end Vk

/-! ## VkTake -/
set_option Elab.async false
set_option linter.all false
set_option maxRecDepth 100000
set_option maxHeartbeats 2000000
/-! _law_take: any number below the bound may come; the urn stays an urn. -/
namespace Vk
open PySem PySem.Spec PyProof.Rows L2 LamX StX
/-- an urn at U from which f draws are left (each counts one) -/
def Urn (H : Hp) (U : Addr) (f : Nat) : Prop := ∃ n m c : Int, H U = some (.lst [.int n, .int m, .int c]) ∧ 0 ≤ m ∧ m < 4611686018427387904 ∧ 0 ≤ c ∧ c + f ≤ 100000
/-- all but U stays -/
def GU (U : Addr) (T : TabL) (H H' : Hp) : Prop := (∀ b o, H b = some o → (∀ ps, o ≠ HO.tbl ps) → b ≠ U → H' b = some o) ∧ (Tabs T H → Tabs T H')
theorem GU.refl (U : Addr) (T : TabL) (H : Hp) : GU U T H H := ⟨fun _ _ h _ _ => h, id⟩
theorem GU.trans {U : Addr} {T : TabL} {H H1 H2 : Hp} (a : GU U T H H1) (b : GU U T H1 H2) : GU U T H H2 := ⟨fun c o h n z => b.1 c o (a.1 c o h n z) n z, fun t => b.2 (a.2 t)⟩
theorem GU.gr {U : Addr} {T : TabL} {H H' : Hp} (g : Gr T H H') : GU U T H H' := ⟨fun b o h n _ => g.1 b o h n, g.2⟩
theorem GU.upd {U : Addr} {T : TabL} {H : Hp} {xs ys : List V} (h : H U = some (.lst xs)) : GU U T H (upd H U (.lst ys)) := ⟨fun b o q n z => by rw [upd_ne z]; exact q, tabs_lst h⟩
theorem Urn.gr {U : Addr} {T : TabL} {H H' : Hp} {f : Nat} (u : Urn H U f) (g : Gr T H H') : Urn H' U f := by
  obtain ⟨n, m, c, h, r⟩ := u
  exact ⟨n, m, c, g.1 _ _ h (fun ps z => by cases z), r⟩
theorem Urn.less {U : Addr} {H : Hp} {f f' : Nat} (u : Urn H U f) (l : f' ≤ f) : Urn H U f' := by
  obtain ⟨n, m, c, h, h1, h2, h3, h4⟩ := u
  exact ⟨n, m, c, h, h1, h2, h3, by omega⟩
/-- the promise of _law_take -/
def spTake (T : TabL) : Sp := fun vs H Q _ => ∃ (U : Addr) (low : Int) (f : Nat), vs = [.ref U, .int low] ∧ 0 < low ∧ low < 1000000 ∧ Urn H U (f + 1) ∧
  ∀ (k : Int) H', 0 ≤ k → k < low → GU U T H H' → Urn H' U f → Q (.int k) H'
theorem sc__law_take : FnScope ["_law_urn", "_law_low_so", "_law_drawn", "_law_once", "_law_far", "_law_twice"] ["_law_urn", "_law_low_so"] (defScope s_law_take) := ⟨rfl, rfl, rfl, by decide +kernel, rfl, by decide +kernel, by decide +kernel⟩
theorem bd__law_take : BindsSt s_law_take "_law_take" ["_law_urn", "_law_low_so"] := fun _ _ _ _ _ _ us hl => match us, hl with | [_, _], _ => rfl
section
variable {P : Program} {w : World} {K : PySem.W.Frag} {mg : Str → Option Value} {base : Heap} {T : TabL}
abbrev rMod : R2 := rI (fun _ j => 0 < j) fun i j => .int (i % j)
abbrev rDiv : R2 := rI CDiv fun i j => .int (i / j)
abbrev rMul : R2 := rI CMul fun i j => .int (i * j)
abbrev rAddI : R2 := rI0 fun i j => .int (i + j)
abbrev rInt1 : List V → Hp → VK → Prop := fun xs H Q => (∃ i, xs = [.int i] ∧ Q (.int i) H) ∨ ∃ k, xs = [.bl k] ∧ Q (.int (if k then 1 else 0)) H
theorem ixU {U : Addr} {H : Hp} {xs : List V} {i : Int} {v : V} {Q : VK} (h : H U = some (.lst xs)) (g : atI xs i = some v) (q : Q v H) : rIx K (.ref U) (.int i) H Q := .inl ⟨U, xs, i, v, rfl, rfl, SqL.of h, g, q⟩
theorem ok_take_fn {f : Addr} {fd : FuncData} (F : Fun K "_law_take" "_law_take" s_law_take f fd) (B : Bl mg) : FnOk P w K mg base CX0 1 f fd ["_law_urn", "_law_low_so"] (spTake T) := by
  refine F.ok sc__law_take (fun vs H Q E h => ?_) (fun cdv A outer s H vs Q E hr h => ?_)
  · obtain ⟨U, low, f, rfl, _⟩ := h
    rfl
  · obtain ⟨U, low, fu, rfl, hl0, hl1, ⟨n, m, c, hU, hm0, hm1, hc0, hc1⟩, q⟩ := h
    have nd := sc__law_take.nd
    have LOC : ∀ {x : Str} {sc : Scope}, sc.names.lookup x = some .local → Loc sc x := fun h => .inl h
    refine ⟨_, pss_cons (ps_if (pt_cmpR op_gt (pe_ix ix_seq (pv 0) pe_int (fun _ _ => rfl)) pe_int (by rfl))
      (pss_cons (ps_set (i := 2) nd rfl (.inl rfl) (pe_op op_mod (pe_callTy call_int1 (by rfl) B.int_ rfl (pa_cons (pe_ix ix_seq (pv 0) pe_int (fun _ _ => rfl)) pa_nil)) (pv 1)))
        (pss_cons (ps_asg (pe_op op_fdiv (pe_ix ix_seq (pv 0) pe_int (fun _ _ => rfl)) (pv 1)) (pg_sub (pv 0) pe_int set_list))
          (pss_one (ps_ret (pv 2))))) pss_nil)
      (pss_cons (ps_asg (pe_op op_add (pe_ix ix_seq (pv 0) pe_int (fun _ _ => rfl)) pe_int) (pg_sub (pv 0) pe_int set_list))
      (pss_cons (ps_set (i := 3) nd rfl (.inl rfl) (pe_op op_mod (pe_callTy call_int1 (by rfl) B.int_ rfl (pa_cons (pe_op op_mul (pe_op op_add (pe_ix ix_seq (pv 0) pe_int (fun _ _ => rfl)) (pe_op op_mul pe_int (pe_ix ix_seq (pv 0) pe_int (fun _ _ => rfl)))) (pe_op op_add pe_int (pe_ix ix_seq (pv 0) pe_int (fun _ _ => rfl)))) pa_nil)) pe_int))
      (pss_cons (ps_set (i := 4) nd rfl (.inl rfl) (pe_op op_add (pe_op op_mod (pe_callTy call_int1 (by rfl) B.int_ rfl (pa_cons (pv 3) pa_nil)) pe_int) pe_int))
      (pss_cons (ps_set (i := 5) nd rfl (.inl rfl) (pe_op op_mod (pe_callTy call_int1 (by rfl) B.int_ rfl (pa_cons (pe_op op_mul (pe_op op_add (pe_op op_add (pv 3) (pe_ix ix_seq (pv 0) pe_int (fun _ _ => rfl))) (pe_op op_fdiv (pe_ix ix_seq (pv 0) pe_int (fun _ _ => rfl)) pe_int)) (pv 4)) pa_nil)) pe_int))
      (pss_one (ps_ret (pe_op op_mod (pe_callTy call_int1 (by rfl) B.int_ rfl (pa_cons (pe_op op_fdiv (pe_op op_mod (pe_callTy call_int1 (by rfl) B.int_ rfl (pa_cons (pe_op op_add (pe_op op_mul (pv 5) pe_int) (pv 3)) pa_nil)) pe_int) pe_int) pa_nil)) (pv 1)))))))), ?_⟩
    refine ⟨.ref U, rfl, ixU hU rfl ⟨n, 0, rfl, rfl, _, rfl, ?_⟩⟩
    by_cases hn : 0 < n
    · rw [decide_eq_true hn]
      refine iteT ?_
      refine ⟨.ref U, rfl, ixU hU rfl (.inl ⟨n, rfl, .int low, rfl, n, low, rfl, rfl, hl0, ?_⟩)⟩
      refine ⟨.ref U, rfl, ixU hU rfl ⟨.int low, rfl, n, low, rfl, rfl, ⟨hl0, by omega⟩, .ref U, rfl, U, _, 0, 0, rfl, rfl, hU, rfl, ?_⟩⟩
      refine ⟨.int (n % low), rfl, q _ _ (Int.emod_nonneg n (by omega)) (Int.emod_lt_of_pos n hl0) (GU.upd hU) ⟨n / low, m, c, upd_same, hm0, hm1, hc0, by omega⟩⟩
    · rw [decide_eq_false hn]
      refine iteF ?_
      have hU1 : (upd H U (.lst [.int n, .int m, .int (c + 1)])) U = some (.lst [.int n, .int m, .int (c + 1)]) := upd_same
      refine ⟨.ref U, rfl, ixU hU rfl ⟨c, 1, rfl, rfl, .ref U, rfl, U, _, 2, 2, rfl, rfl, hU, rfl, ?_⟩⟩
      have fin : ∀ k : Int, 0 ≤ k → k < low → Q (.int k) (upd H U (.lst [.int n, .int m, .int (c + 1)])) := fun k h0 h1 => q k _ h0 h1 (GU.upd hU) ⟨n, m, c + 1, upd_same, hm0, hm1, by omega, by omega⟩
      refine ⟨.ref U, rfl, ixU hU1 rfl ⟨.ref U, rfl, ixU hU1 rfl ⟨48271, c + 1, rfl, rfl, .inl (by omega), m, _, rfl, rfl, .ref U, rfl, ixU hU1 rfl ⟨39373, c + 1, rfl, rfl, m + 48271 * (c + 1), 39373 + (c + 1), rfl, rfl, .inr (by omega), .inl ⟨_, rfl, _, _, rfl, rfl, by omega, ?_⟩⟩⟩⟩⟩
      refine ⟨.int _, rfl, .inl ⟨_, rfl, _, _, rfl, rfl, by omega, _, _, rfl, rfl, ?_⟩⟩
      refine ⟨.int _, rfl, .ref U, rfl, ixU hU1 rfl ⟨_, _, rfl, rfl, .ref U, rfl, ixU hU1 rfl ⟨m, 1000003, rfl, rfl, ⟨by omega, by omega⟩, _, _, rfl, rfl, .int _, rfl, _, _, rfl, rfl, .inr ?_, .inl ⟨_, rfl, _, _, rfl, rfl, by omega, ?_⟩⟩⟩⟩
      · have h1 := Int.emod_nonneg (((m + 48271 * (c + 1)) * (39373 + (c + 1))) % 2147483647) (show (40009 : Int) ≠ 0 by decide)
        have h2 := Int.emod_lt_of_pos (((m + 48271 * (c + 1)) * (39373 + (c + 1))) % 2147483647) (show (0 : Int) < 40009 by decide)
        exact ⟨by omega, by omega⟩
      · refine ⟨.int _, rfl, _, 48271, rfl, rfl, .inr ⟨by omega, by omega⟩, .int _, rfl, _, _, rfl, rfl, .inl ⟨_, rfl, _, _, rfl, rfl, by omega, _, _, rfl, rfl, ⟨by omega, by omega⟩, .inl ⟨_, rfl, .int low, rfl, _, low, rfl, rfl, hl0, ?_⟩⟩⟩
        exact fin _ (Int.emod_nonneg _ (by omega)) (Int.emod_lt_of_pos _ hl0)
end
end Vk

/-! ## VkUrn -/
set_option Elab.async false
set_option linter.all false
set_option maxRecDepth 100000
set_option maxHeartbeats 1000000
/-! Readings in which an urn is drawn from: what comes is not known, only what it may be. -/
namespace Vk
open PySem PySem.Spec PyProof.Rows L2 LamX StX
section
variable {K : PySem.W.Frag} {T : TabL} {H H' H1 H2 : Hp} {M : List Addr} {U : Addr} {f n m : Nat} {σ : L2.St} {ρ : DEnv}
theorem Urn.lst {f : Nat} (u : Urn H U f) : ∃ xs, H U = some (.lst xs) := let ⟨n, m, c, h, _⟩ := u; ⟨_, h⟩
theorem GU.le (g : GU U T H H') (hu : U ∈ M) : Le H M H' M := fun b o h n => by
  obtain ⟨h1, h2⟩ := hid_some h
  exact hid_of h1 (g.1 b o h2 n fun e => h1 (e ▸ hu))
theorem GU.mok (g : GU U T H H') (u : Urn H' U f) (mk' : MOk M H) : MOk M H' := fun a ha => by
  by_cases e : a = U
  · obtain ⟨xs, h⟩ := u.lst
    rw [e]; exact ⟨_, h, nt_lst⟩
  · obtain ⟨o, h, nt⟩ := mk' a ha
    exact ⟨o, g.1 _ _ h nt.1 e, nt⟩
structure SatU (K : PySem.W.Frag) (T : TabL) (M : List Addr) (U : Addr) (f : Nat) (H : Hp) (σ : L2.St) (ρ : DEnv) : Prop where
  s : Sat K T M H σ ρ
  mem : U ∈ M
  slot : σ[0]? = some (some (.ref U))
  urn : Urn H U f
theorem SatU.gu (S : SatU K T M U f H σ ρ) (g : GU U T H H') (u : Urn H' U n) : SatU K T M U n H' σ ρ := ⟨S.s.le (g.2 S.s.tabs) (g.mok u S.s.msk) (g.le S.mem), S.mem, S.slot, u⟩
theorem SatU.gr (S : SatU K T M U f H σ ρ) (g : Gr T H H') : SatU K T M U f H' σ ρ := S.gu (GU.gr g) (S.urn.gr g)
theorem SatU.less (S : SatU K T M U f H σ ρ) (l : n ≤ f) : SatU K T M U n H σ ρ := ⟨S.s, S.mem, S.slot, S.urn.less l⟩
theorem IsD.gu {v : V} {d : PyData} (i : IsD K (hid H M) v d) (g : GU U T H H') (hu : U ∈ M) : IsD K (hid H' M) v d := i.le (g.le hu)
theorem IsDs.gu {v : List V} {d : List PyData} (i : IsDs K (hid H M) v d) (g : GU U T H H') (hu : U ∈ M) : IsDs K (hid H' M) v d := i.le (g.le hu)
end
/-! ### readings -/
abbrev PD : Type := DEnv → Prop
def tDU (K : PySem.W.Frag) (T : TabL) (n : Nat) (P : PD) (R : RE) : TE := fun σ H Q => ∃ ρ M U f, SatU K T M U (f + n) H σ ρ ∧ P ρ ∧ ∀ d v H', R ρ d → GU U T H H' → Urn H' U f → IsD K (hid H' M) v d → Q v H'
def tDUA (K : PySem.W.Frag) (T : TabL) (n : Nat) (P : PD) (A : RA) : TA := fun σ H Q => ∃ ρ M U f, SatU K T M U (f + n) H σ ρ ∧ P ρ ∧ ∀ ds vs H', A ρ ds → GU U T H H' → Urn H' U f → IsDs K (hid H' M) vs ds → Q vs H'
def tDUT (K : PySem.W.Frag) (T : TabL) (n : Nat) (P : PD) (B : RB) : TT := fun σ H Q => ∃ ρ M U f, SatU K T M U (f + n) H σ ρ ∧ P ρ ∧ ∀ b H', B ρ b → GU U T H H' → Urn H' U f → Q b H'
def DU (X : Cx) (T : TabL) (e : Expr) (n : Nat) (P : PD) (R : RE) : Prop := PE X e (tDU X.K T n P R)
def DUA (X : Cx) (T : TabL) (es : List Expr) (n : Nat) (P : PD) (A : RA) : Prop := PA X es (tDUA X.K T n P A)
def DUT (X : Cx) (T : TabL) (e : Expr) (n : Nat) (P : PD) (B : RB) : Prop := PT X e (tDUT X.K T n P B)
def DUW (X : Cx) (T : TabL) (e : Expr) (n : Nat) (P : PD) (B : RB) : Prop := PW X e (tDUT X.K T n P B)
def pTrue : PD := fun _ => True
section
variable {X : Cx} {T : TabL}
/-- what is read without a draw -/
theorem du_de {e : Expr} {R0 R : RE} {P : PD} (h : DE X T e R0) (hp : ∀ ρ, P ρ → ∃ d, R0 ρ d ∧ R ρ d) : DU X T e 0 P R := pe_weak h fun σ H Q ⟨ρ, M, U, f, S, p, k⟩ => by
  obtain ⟨d, h1, h2⟩ := hp ρ p
  exact tD1 S.s h1 fun v H1 g i => k d v H1 h2 (GU.gr g) (S.urn.gr g) i
theorem du_w {e : Expr} {n n' : Nat} {P P' : PD} {R R' : RE} (h : DU X T e n P R) (hn : n ≤ n') (hp : ∀ ρ, P' ρ → P ρ ∧ ∀ d, R ρ d → R' ρ d) : DU X T e n' P' R' := pe_weak h fun σ H Q ⟨ρ, M, U, f, S, p, k⟩ =>
  ⟨ρ, M, U, f + (n' - n), by rw [show f + (n' - n) + n = f + n' by omega]; exact S, (hp ρ p).1, fun d v H' r g u i => k d v H' ((hp ρ p).2 d r) g (u.less (by omega)) i⟩
theorem dua_nil : DUA X T [] 0 pTrue rNil := pa_weak pa_nil fun σ H Q ⟨ρ, M, U, f, S, _, k⟩ => k [] [] H rfl (GU.refl _ _ _) S.urn .nil
theorem dua_cons {e : Expr} {es : List Expr} {n m : Nat} {P P' : PD} {R : RE} {A : RA} (h : DU X T e n P R) (t : DUA X T es m P' A) (hs : starEach (e :: es) X.env = (false, eval e X.env) :: starEach es X.env := by rfl) : DUA X T (e :: es) (n + m) (fun ρ => P ρ ∧ P' ρ) (rCons R A) :=
  pa_weak (pa_cons h t hs) fun σ H Q ⟨ρ, M, U, f, S, ⟨p, p'⟩, k⟩ => by
    refine ⟨ρ, M, U, f + m, by rw [show f + m + n = f + (n + m) by omega]; exact S, p, fun d v H1 r g1 u1 i1 => ?_⟩
    refine ⟨ρ, M, U, f, S.gu g1 u1, p', fun ds vs H2 ra g2 u2 i2 => k (d :: ds) (v :: vs) H2 ⟨d, ds, r, ra, rfl⟩ (g1.trans g2) u2 (.cons (i1.gu g2 S.mem) i2)⟩
theorem du_tup {es : List Expr} {n : Nat} {P : PD} {A : RA} {x1 pos} (h : DUA X T es n P A) (hl : ∀ ρ ds, A ρ ds → ds.length ≤ 1000000) : DU X T (.Tuple es x1 pos) n P (fun ρ d => ∃ ds, A ρ ds ∧ d = .tuple ds) := pe_weak (pe_tup h) fun σ H Q ⟨ρ, M, U, f, S, p, k⟩ =>
  ⟨ρ, M, U, f, S, p, fun ds vs H1 ra g1 u1 i1 => ⟨by rw [i1.length]; exact line_of (hl _ _ ra), fun q hq => k (.tuple ds) _ _ ⟨ds, ra, rfl⟩ (g1.trans (GU.gr (Gr.upd hq))) (u1.gr (Gr.upd (T := T) hq)) (new_tup ((S.gu g1 u1).s.fresh hq) hq i1)⟩⟩
theorem du_callB {id : String} {φ : Phi} {x : Str} {p pos : Pos} {e : Expr} {es : List Expr} {n : Nat} {P : PD} {A : RA} {R : RE} (hc : CallD X T (.builtin id) φ) (hg : Gl X x) (hm : X.mg x = none) (hv : bootBuiltins x = some (.builtin id)) (ha : DUA X T (e :: es) n P A) (tot : ∀ ρ ds, P ρ → A ρ ds → ∃ z, φ ds z ∧ R ρ z)
    (hn : x ≠ "__name__" := by decide) (hdb : (x == ("__debug__" : Str)) = false := by decide) (he : starEach (e :: es) X.env = (false, eval e X.env) :: starEach es X.env := by rfl) (hpl : (backTo pos (starEach es X.env)).any (·.1) = false := by rfl) : DU X T (.Call (.Name x p) (e :: es) [] pos) n P R := by
  obtain ⟨r, h1, h2⟩ := hc
  exact pe_weak (pe_callB h1 hg hm hv ha hn hdb he hpl) fun σ H Q ⟨ρ, M, U, f, S, p, k⟩ => ⟨ρ, M, U, f, S, p, fun ds vs H1 ra g1 u1 i1 => by
    obtain ⟨z, q1, q2⟩ := tot ρ ds p ra
    have S1 := S.gu g1 u1
    exact h2 vs ds z M H1 Q S1.s.tabs S1.s.msk i1 q1 fun v H2 g2 i2 => k z v H2 q2 (g1.trans (GU.gr g2)) (u1.gr g2) i2⟩
theorem du_callTy {id : String} {φ : Phi} {x : Str} {p pos : Pos} {e : Expr} {es : List Expr} {n : Nat} {P : PD} {A : RA} {R : RE} (hc : CallD X T (.type id) φ) (hg : Gl X x) (hm : X.mg x = none) (hv : bootBuiltins x = some (.type id)) (ha : DUA X T (e :: es) n P A) (tot : ∀ ρ ds, P ρ → A ρ ds → ∃ z, φ ds z ∧ R ρ z)
    (hn : x ≠ "__name__" := by decide) (hdb : (x == ("__debug__" : Str)) = false := by decide) (he : starEach (e :: es) X.env = (false, eval e X.env) :: starEach es X.env := by rfl) (hpl : (backTo pos (starEach es X.env)).any (·.1) = false := by rfl) : DU X T (.Call (.Name x p) (e :: es) [] pos) n P R := by
  obtain ⟨r, h1, h2⟩ := hc
  exact pe_weak (pe_callTy h1 hg hm hv ha hn hdb he hpl) fun σ H Q ⟨ρ, M, U, f, S, p, k⟩ => ⟨ρ, M, U, f, S, p, fun ds vs H1 ra g1 u1 i1 => by
    obtain ⟨z, q1, q2⟩ := tot ρ ds p ra
    have S1 := S.gu g1 u1
    exact h2 vs ds z M H1 Q S1.s.tabs S1.s.msk i1 q1 fun v H2 g2 i2 => k z v H2 q2 (g1.trans (GU.gr g2)) (u1.gr g2) i2⟩
theorem du_callD {k k' na n : Nat} {φ : Phi} {x : Str} {p pos : Pos} {e : Expr} {es : List Expr} {P : PD} {A : RA} {R : RE} (D : PDef X.prog X.w X.K X.mg X.base T x k na φ) (hr : Room k' X.A) (hk : k ≤ k') (hg : Gl X x) (ha : DUA X T (e :: es) n P A) (tot : ∀ ρ ds, P ρ → A ρ ds → ds.length = na ∧ ∃ z, φ ds z ∧ R ρ z)
    (hdb : (x == ("__debug__" : Str)) = false := by decide) (he : starEach (e :: es) X.env = (false, eval e X.env) :: starEach es X.env := by rfl) (hpl : (backTo pos (starEach es X.env)).any (·.1) = false := by rfl) : DU X T (.Call (.Name x p) (e :: es) [] pos) n P R := by
  obtain ⟨f, fd, ps, hm, hkp, hb, hn, F⟩ := D.ex
  have hx : Passes CX0 X E0 := pass0
  refine pe_weak (pe_call (E := E0) F (hr.mono hk) hg hm hkp hb .nil hx ha hdb he hpl) fun σ H Q ⟨ρ, M, U, fu, S, p, kk⟩ => ⟨ρ, M, U, fu, S, p, fun ds vs H1 ra g1 u1 i1 => ?_⟩
  obtain ⟨hl, z, q1, q2⟩ := tot ρ ds p ra
  have S1 := S.gu g1 u1
  show spD X.K T na φ (vs ++ []) H1 Q E0
  rw [List.append_nil]
  exact ⟨i1.length.trans hl, ds, z, M, S1.s.tabs, S1.s.msk, i1, q1, fun v H2 g2 i2 => kk z v H2 q2 (g1.trans (GU.gr g2)) (u1.gr g2) i2⟩
theorem du_bin {op : Operator} {φ : Phi2} {n m : Nat} {P P' : PD} {R R' R2 : RE} {a b : Expr} {pos : Pos} (ho : OpD X T (binaryOp op) φ) (ha : DU X T a n P R) (hb : DU X T b m P' R') (tot : ∀ ρ d e, P ρ → P' ρ → R ρ d → R' ρ e → ∃ z, φ d e z ∧ R2 ρ z) : DU X T (.BinOp a op b pos) (n + m) (fun ρ => P ρ ∧ P' ρ) R2 := by
  obtain ⟨r, h1, h2⟩ := ho
  refine pe_weak (pe_op h1 ha hb) fun σ H Q ⟨ρ, M, U, f, S, ⟨p, p'⟩, k⟩ => ?_
  refine ⟨ρ, M, U, f + m, by rw [show f + m + n = f + (n + m) by omega]; exact S, p, fun d v H1 r1 g1 u1 i1 => ?_⟩
  have S1 := S.gu g1 u1
  refine ⟨ρ, M, U, f, S1, p', fun e u H2 r2 g2 u2 i2 => ?_⟩
  obtain ⟨z, q1, q2⟩ := tot ρ d e p p' r1 r2
  have S2 := S1.gu g2 u2
  exact h2 v u d e z M H2 Q S2.s.tabs S2.s.msk (i1.gu g2 S.mem) i2 q1 fun w H3 g3 i3 => k z w H3 q2 ((g1.trans g2).trans (GU.gr g3)) (u2.gr g3) i3
theorem du_cmp {op : CmpOp} {φ : Phi2} {n m : Nat} {P P' : PD} {R R' R2 : RE} {a b : Expr} {pos : Pos} (ho : OpD X T (compareOp op) φ) (ha : DU X T a n P R) (hb : DU X T b m P' R') (hm : behindInMarks op b = false) (tot : ∀ ρ d e, P ρ → P' ρ → R ρ d → R' ρ e → ∃ z, φ d e z ∧ R2 ρ z) : DU X T (.Compare a [op] [b] pos) (n + m) (fun ρ => P ρ ∧ P' ρ) R2 := by
  obtain ⟨r, h1, h2⟩ := ho
  refine pe_weak (pe_cmpR h1 ha hb hm) fun σ H Q ⟨ρ, M, U, f, S, ⟨p, p'⟩, k⟩ => ?_
  refine ⟨ρ, M, U, f + m, by rw [show f + m + n = f + (n + m) by omega]; exact S, p, fun d v H1 r1 g1 u1 i1 => ?_⟩
  have S1 := S.gu g1 u1
  refine ⟨ρ, M, U, f, S1, p', fun e u H2 r2 g2 u2 i2 => ?_⟩
  obtain ⟨z, q1, q2⟩ := tot ρ d e p p' r1 r2
  have S2 := S1.gu g2 u2
  exact h2 v u d e z M H2 Q S2.s.tabs S2.s.msk (i1.gu g2 S.mem) i2 q1 fun w H3 g3 i3 => k z w H3 q2 ((g1.trans g2).trans (GU.gr g3)) (u2.gr g3) i3
end
/-! ### defs that draw -/
def spU (K : PySem.W.Frag) (T : TabL) (na n : Nat) (Pre : List PyData → Prop) (Φ : Phi) : Sp := fun vs H Q _ => vs.length = na + 1 ∧ ∃ U ws ds M f, vs = .ref U :: ws ∧ Tabs T H ∧ MOk M H ∧ U ∈ M ∧ Urn H U (f + n) ∧ IsDs K (hid H M) ws ds ∧ Pre ds ∧
  ∀ d v H', Φ ds d → GU U T H H' → Urn H' U f → IsD K (hid H' M) v d → Q v H'
structure PU (P : Program) (w : World) (K : PySem.W.Frag) (mg : Str → Option Value) (base : Heap) (T : TabL) (x : Str) (k na n : Nat) (Pre : List PyData → Prop) (Φ : Phi) : Prop where
  ex : ∃ (f : Addr) (fd : FuncData) (ps : List Str), mg x = some (.ref f) ∧ PySem.W.keepIn K (.ref f) = true ∧ Binds K fd ps [] ∧ ps.length = na + 1 ∧ FnOk P w K mg base CX0 k f fd ps (spU K T na n Pre Φ)
section
variable {X : Cx} {T : TabL}
theorem du_callU {k k' na n m : Nat} {Pre : List PyData → Prop} {Φ : Phi} {x y : Str} {p p2 pos : Pos} {es : List Expr} {P : PD} {A : RA} (D : PU X.prog X.w X.K X.mg X.base T x k na n Pre Φ) (hr : Room k' X.A) (hk : k ≤ k') (hg : Gl X x) (hu : PE X (.Name y p2) (tVar 0)) (ha : DUA X T es m P A) (tot : ∀ ρ ds, P ρ → A ρ ds → ds.length = na ∧ Pre ds)
    (hdb : (x == ("__debug__" : Str)) = false := by decide) (he : starEach (.Name y p2 :: es) X.env = (false, eval (.Name y p2) X.env) :: starEach es X.env := by rfl) (hpl : (backTo pos (starEach es X.env)).any (·.1) = false := by rfl) :
    DU X T (.Call (.Name x p) (.Name y p2 :: es) [] pos) (m + n) P (fun ρ d => ∃ ds, A ρ ds ∧ Φ ds d) := by
  obtain ⟨f, fd, ps, hm, hkp, hb, hn, F⟩ := D.ex
  have hx : Passes CX0 X E0 := pass0
  refine pe_weak (pe_call (E := E0) F (hr.mono hk) hg hm hkp hb .nil hx (pa_cons hu ha he) hdb he hpl) fun σ H Q ⟨ρ, M, U, fu, S, p, kk⟩ => ?_
  refine ⟨.ref U, S.slot, ρ, M, U, fu + n, by rw [show fu + n + m = fu + (m + n) by omega]; exact S, p, fun ds vs H1 ra g1 u1 i1 => ?_⟩
  obtain ⟨hl, pre⟩ := tot ρ ds p ra
  have S1 := S.gu g1 u1
  show spU X.K T na n Pre Φ ((.ref U :: vs) ++ []) H1 Q E0
  rw [List.append_nil]
  refine ⟨by rw [List.length_cons, i1.length, hl], U, vs, ds, M, fu, rfl, S1.s.tabs, S1.s.msk, S.mem, u1, i1, pre, fun d v H2 ph g2 u2 i2 => kk d v H2 ⟨ds, ra, ph⟩ (g1.trans g2) u2 i2⟩
end
/-- _law_take as such a def -/
def preTake : List PyData → Prop := fun ds => ∃ low : Int, ds = [.int low] ∧ 0 < low ∧ low < 1000000
def phTake : Phi := fun ds d => ∃ low k : Int, ds = [.int low] ∧ d = .int k ∧ 0 ≤ k ∧ k < low
section
variable {P : Program} {w : World} {K : PySem.W.Frag} {mg : Str → Option Value} {base : Heap} {T : TabL} {c : Addr}
theorem ok_take (X : Txs K mg c) : PU P w K mg base T "_law_take" 1 1 1 preTake phTake := by
  obtain ⟨f, fd, hm, F⟩ := X.t__law_take
  refine ⟨f, fd, _, hm, F.kp, F.binds bd__law_take, rfl, ⟨fun vs H Q E h => h.1, fun A outer s H args us vs Q E hr e0 hb r h => (ok_take_fn (T := T) F X.bl).run A outer s H args us vs Q E hr e0 hb r ?_⟩⟩
  obtain ⟨_, U, ws, ds, M, fu, rfl, tb, mk', hu, urn, i, ⟨low, rfl, h0, h1⟩, q⟩ := h
  obtain ⟨v, rfl, iv⟩ := isDs_one i
  cases iv
  exact ⟨U, low, fu, rfl, h0, h1, urn, fun k H' k0 k1 g u => q (.int k) (.int k) H' ⟨low, k, rfl, rfl, k0, k1⟩ g u (.int k)⟩
end
end Vk

/-! ## VkPick -/
set_option Elab.async false
set_option linter.all false
set_option maxRecDepth 100000
set_option maxHeartbeats 2000000
/-! _law_pick: some of the goods, none twice. -/
namespace Vk
open PySem PySem.Spec PyProof.Rows L2 LamX StX
theorem typ_pop : typeOf (.builtin "list.pop") = pure (.type "method_descriptor") := by show builtinType _ = _; rw [builtinType_eq_fast]; kernel_rfl
def prePick : List PyData → Prop := fun ds => ∃ (g : PyData) (xs : KS) (s : Int), ds = [g, .int s] ∧ isS g xs ∧ xs.length ≤ 10 ∧ 0 ≤ s ∧ s ≤ 1000
def phPick : Phi := fun ds d => ∃ (g : PyData) (xs : KS) (s : Int) (ys : KS), ds = [g, .int s] ∧ isS g xs ∧ d = lS ys ∧ ys.length = min s.toNat xs.length ∧ (xs.Nodup → ys.Nodup) ∧ ∀ y ∈ ys, y ∈ xs
theorem sc__law_pick : FnScope ["_law_urn", "_law_goods", "_law_size_so", "_law_pool", "_law_found", "_law_lap"] ["_law_urn", "_law_goods", "_law_size_so"] (defScope s_law_pick) := ⟨rfl, rfl, rfl, by decide +kernel, rfl, by decide +kernel, by decide +kernel⟩
theorem bd__law_pick : BindsSt s_law_pick "_law_pick" ["_law_urn", "_law_goods", "_law_size_so"] := fun _ _ _ _ _ _ us hl => match us, hl with | [_, _, _], _ => rfl
theorem erase_map {α β : Type} (f : α → β) : ∀ (l : List α) (k : Nat), (l.map f).eraseIdx k = (l.eraseIdx k).map f
  | [], _ => rfl
  | a :: l, 0 => rfl
  | a :: l, k + 1 => congrArg (f a :: ·) (erase_map f l k)
theorem erase_perm {α : Type} : ∀ {l : List α} {k : Nat} (h : k < l.length), (l[k] :: l.eraseIdx k).Perm l
  | a :: l, 0, _ => .refl _
  | a :: l, k + 1, h => (List.Perm.swap _ _ _).trans ((erase_perm (l := l) (k := k) (Nat.lt_of_succ_lt_succ h)).cons a)
section
variable {P : Program} {w : World} {K : PySem.W.Frag} {mg : Str → Option Value} {base : Heap} {T : TabL}
theorem ok_pick_fn {f : Addr} {fd : FuncData} (F : Fun K "_law_pick" "_law_pick" s_law_pick f fd) (B : Bl mg) (D : PU P w K mg base T "_law_take" 1 1 1 preTake phTake) : FnOk P w K mg base CX0 2 f fd ["_law_urn", "_law_goods", "_law_size_so"] (spU K T 2 10 prePick phPick) := by
  obtain ⟨ft, fdt, pst, hmt, hkt, hbt, hnt, FT⟩ := D.ex
  refine F.ok sc__law_pick (fun vs H Q E h => h.1) (fun cdv A outer s H vs Q E hr h => ?_)
  have nd := sc__law_pick.nd
  refine ⟨_, pss_cons (ps_par (i := 3) (j := 4) rfl nd rfl rfl (by decide) rfl rfl (pa_cons (pe_callTy call_list_of (by rfl) B.list_ rfl (pa_cons (pv 1) pa_nil)) (pa_cons (pe_lst pa_nil) pa_nil)) (by rfl))
    (pss_cons (ps_for PassesOwn.never rfl (pi_range1 (by rfl) B.range_ (pa_cons (pe_callB (call_min2 rfl) (by rfl) B.min_ boot_min (pa_cons (pe_callTy call_int1 (by rfl) B.int_ rfl (pa_cons (pv 2) pa_nil)) (pa_cons (pe_callB call_len_seq (by rfl) B.len_ rfl (pa_cons (pv 3) pa_nil)) pa_nil))) pa_nil)) (pg_name (i := 5) nd rfl (.inl rfl))
      (pss_one (ps_expr (pe_bm PySem.F.plainAttrs_list PySem.F.slot_list_append typ_append mt_append (pv 4) (pa_cons (pe_bm PySem.F.plainAttrs_list PySem.F.slot_list_pop typ_pop mt_popAt (pv 3) (pa_cons (pe_call (E := E0) FT hr (by rfl) hmt hkt hbt .nil pass0 (pa_cons (pv 0) (pa_cons (pe_callB call_len_seq (by rfl) B.len_ rfl (pa_cons (pv 3) pa_nil)) pa_nil))) pa_nil)) pa_nil)))))
    (pss_one (ps_ret (pv 4)))), ?_⟩
  obtain ⟨_, U, ws, ds, M, fu, rfl, tb, mk', hu, urn, iw, ⟨g, xs, sz, rfl, hg, hxl, hs0, hs1⟩, q⟩ := h
  obtain ⟨vg, vs, rfl, ig, is⟩ := isDs_two iw
  cases is
  obtain ⟨ag, us, rfl, hq, tg⟩ := seq_parts ig hg
  have eus := tg.strs
  subst eus
  -- list(goods), []
  refine ⟨.ref ag, rfl, ag, _, rfl, (sq_all hq).symm, fun Pl hPl => ?_⟩
  refine ⟨Nat.zero_le _, fun Fo hFo => ⟨_, _, rfl, ?_⟩⟩
  have g1 : Gr T H (upd H Pl (.lst (xs.map V.str))) := Gr.upd hPl
  have hFoPl : Fo ≠ Pl := fun e => by rw [e, upd_same] at hFo; cases hFo
  have hFo0 : H Fo = none := by rw [upd_ne hFoPl] at hFo; exact hFo
  obtain ⟨uxs, hUx⟩ := urn.lst
  have hUPl : U ≠ Pl := fun e => by rw [e, hPl] at hUx; cases hUx
  have hUFo : U ≠ Fo := fun e => by rw [e, hFo0] at hUx; cases hUx
  have g2 : Gr T H (upd (upd H Pl (.lst (xs.map V.str))) Fo (.lst [])) := g1.trans (Gr.upd hFo)
  -- the number of turns
  have hP1 : (upd (upd H Pl (.lst (xs.map V.str))) Fo (.lst [])) Pl = some (.lst (xs.map V.str)) := by rw [upd_ne (Ne.symm hFoPl)]; exact upd_same
  have hn : (if (xs.length : Int) < sz then (xs.length : Int) else sz).toNat = min sz.toNat xs.length := by split <;> omega
  refine ⟨.int sz, rfl, .inl ⟨sz, rfl, .ref Pl, rfl, Pl, _, rfl, .inl (SqL.of hP1), sz, _, rfl, (if (xs.length : Int) < sz then (xs.length : Int) else sz), ?_, ?_, ?_, ?_⟩⟩
  · rw [List.length_map]
  · split <;> omega
  · split <;> omega
  rw [hn]
  generalize eH0 : upd (upd H Pl (.lst (xs.map V.str))) Fo (.lst []) = H0 at g2 hP1
  have hF1 : H0 Fo = some (.lst []) := by rw [← eH0]; exact upd_same
  generalize hnn : min sz.toNat xs.length = n
  have hn10 : n ≤ 10 := by omega
  refine ⟨fun i m σ' H' => m = n - i ∧ i ≤ n ∧ ∃ (pool found : KS) (v5 : Option V), σ' = [some (.ref U), some (.ref ag), some (.int sz), some (.ref Pl), some (.ref Fo), v5] ∧ (found ++ pool).Perm xs ∧ found.length = i ∧ H' Pl = some (.lst (pool.map V.str)) ∧ H' Fo = some (.lst (found.map V.str)) ∧ Urn H' U (fu + (10 - i)) ∧ GU U T H H',
    ⟨n, rfl, Nat.zero_le _, xs, [], none, rfl, .refl _, rfl, hP1, hF1, urn.gr g2, GU.gr g2⟩, ?_⟩
  rintro i m σ' H' ⟨rfl, hi, pool, found, v5, rfl, pm, hfl, hP, hF, ur, gg⟩
  by_cases hlt : i < n
  · have hpl : pool.length = xs.length - i := by
      have := pm.length_eq
      rw [List.length_append] at this
      omega
    have hpp : 0 < pool.length := by omega
    refine .inr ⟨hlt, fun σ'' H'' => ∃ (pool found : KS) (v5 : Option V), σ'' = [some (.ref U), some (.ref ag), some (.int sz), some (.ref Pl), some (.ref Fo), v5] ∧ (found ++ pool).Perm xs ∧ found.length = i + 1 ∧ H'' Pl = some (.lst (pool.map V.str)) ∧ H'' Fo = some (.lst (found.map V.str)) ∧ Urn H'' U (fu + (10 - (i + 1))) ∧ GU U T H H'', fun σ'' H'' hN => ⟨_, by omega, rfl, hlt, hN⟩, ?_⟩
    rintro x H'' ⟨rfl, rfl⟩
    obtain ⟨uys, hUy⟩ := ur.lst
    refine ⟨.ref Fo, rfl, .inl ⟨rfl, _, SqL.of hF⟩, .ref Pl, rfl, .inl ⟨rfl, _, SqL.of hP⟩, .ref U, rfl, .ref Pl, rfl, Pl, _, rfl, .inl (SqL.of hP), ?_⟩
    refine ⟨rfl, U, [.int ((pool.map V.str).length : Nat)], [.int ((pool.map V.str).length : Nat)], [U], fu + (10 - (i + 1)), rfl, gg.2 tb, ?_, List.mem_cons_self, by rw [show fu + (10 - (i + 1)) + 1 = fu + (10 - i) by omega]; exact ur, .cons (.int _) .nil, ⟨_, rfl, by rw [List.length_map]; omega, by rw [List.length_map]; omega⟩, ?_⟩
    · intro a ha
      rw [List.mem_singleton.mp ha]
      exact ⟨_, hUy, nt_lst⟩
    rintro d v H2 ⟨low, k, e1, rfl, k0, k1⟩ g3 u3 iv
    cases iv
    have elow : low = ((pool.map V.str).length : Nat) := by
      injection e1 with e1
      injection e1 with e1
      exact e1.symm
    rw [elow, List.length_map] at k1
    have hk : k.toNat < pool.length := by omega
    have hP2 : H2 Pl = some (.lst (pool.map V.str)) := g3.1 _ _ hP (fun ps z => by cases z) (Ne.symm hUPl)
    have hF2 : H2 Fo = some (.lst (found.map V.str)) := g3.1 _ _ hF (fun ps z => by cases z) (Ne.symm hUFo)
    refine ⟨Pl, pool.map V.str, k, k.toNat, .str pool[k.toNat], rfl, rfl, hP2, by omega, by omega, ?_, by rw [List.getElem?_map, List.getElem?_eq_getElem hk]; rfl, ?_⟩
    · rw [seqIndex_of k0 (by rw [List.length_map]; omega)]
    have hF3 : (upd H2 Pl (.lst ((pool.map V.str).eraseIdx k.toNat))) Fo = some (.lst (found.map V.str)) := by rw [upd_ne hFoPl]; exact hF2
    refine ⟨Fo, found.map V.str, .str pool[k.toNat], rfl, rfl, hF3, ?_, ?_⟩
    · rw [List.length_map, sizeLine_eq]; omega
    refine ⟨pool.eraseIdx k.toNat, found ++ [pool[k.toNat]], some (.int (0 + i)), rfl, ?_, ?_, ?_, ?_, ?_, ?_⟩
    · rw [List.append_assoc]
      exact ((erase_perm hk).append_left found).trans pm
    · rw [List.length_append, hfl]; rfl
    · rw [upd_ne (Ne.symm hFoPl), upd_same]
      have : (pool.map V.str).eraseIdx k.toNat = (pool.eraseIdx k.toNat).map V.str := erase_map V.str _ _
      rw [this]
    · rw [upd_same, List.map_append]; rfl
    · obtain ⟨n', m', c', h1, h2⟩ := u3
      exact ⟨n', m', c', by rw [upd_ne hUFo, upd_ne hUPl]; exact h1, h2⟩
    · exact ⟨fun b o h n z => by rw [upd_ne (ne_of_none h hFo0), upd_ne (ne_of_none h hPl)]; exact (gg.trans g3).1 b o h n z, fun t => tabs_lst hF3 (tabs_lst hP2 ((gg.trans g3).2 t))⟩
  · have e : i = n := by omega
    subst e
    refine .inl ⟨Nat.le_refl _, .ref Fo, rfl, ?_⟩
    have hFoM : Fo ∉ M := msk_fresh mk' hFo0
    refine q (lS found) _ H' ⟨g, xs, sz, found, rfl, hg, rfl, ?_, ?_, ?_⟩ gg (ur.less (by omega)) (.lst (hid_of hFoM hF) (IsDs.of_strs found))
    · omega
    · intro nd'
      have := pm.nodup_iff.mpr nd'
      exact (List.nodup_append.mp this).1
    · intro y hy
      exact pm.mem_iff.mp (List.mem_append_left _ hy)
theorem ok_pick {c : Addr} (X : Txs K mg c) : PU P w K mg base T "_law_pick" 2 2 10 prePick phPick := by
  obtain ⟨f, fd, hm, F⟩ := X.t__law_pick
  exact ⟨f, fd, _, hm, F.kp, F.binds bd__law_pick, rfl, ok_pick_fn F X.bl (ok_take X)⟩
end
end Vk

/-! ## VkDraw -/
set_option Elab.async false
set_option linter.all false
set_option maxRecDepth 100000
set_option maxHeartbeats 1000000
/-! Draws within expressions and list comprehensions. -/
namespace Vk
open PySem PySem.Spec PyProof.Rows L2 LamX StX
def rBelow (low : Int) : RE := fun _ d => ∃ k : Int, d = .int k ∧ 0 ≤ k ∧ k < low
/-! ### the start -/
def startU (N : List Str) (ds : List PyData) : DEnv := none :: (ds.map some ++ List.replicate (N.length - (ds.length + 1)) none)
theorem isDs_dat2 {K : PySem.W.Frag} {H : Hp} {n : Nat} : ∀ {vs : List V} {ds : List PyData} {i : Nat} {x : PyData}, IsDs K H vs ds → (ds.map some ++ List.replicate n none)[i]? = some (some x) → ∃ v, (vs.map some ++ List.replicate n none)[i]? = some (some v) ∧ IsD K H v x
  | [], [], i, x, _, h => by
    have h' : (List.replicate n (none : Option PyData))[i]? = some (some x) := h
    rw [List.getElem?_replicate] at h'
    split at h' <;> cases h'
  | v :: vs, d :: ds, 0, x, .cons h t, e => by
    have e' : some (some d) = some (some x) := e
    cases e'
    exact ⟨v, rfl, h⟩
  | v :: vs, d :: ds, i + 1, x, .cons h t, e => by
    obtain ⟨u, h1, h2⟩ := isDs_dat2 (i := i) t e
    exact ⟨u, h1, h2⟩
theorem start_satU {K : PySem.W.Frag} {T : TabL} {M : List Addr} {U : Addr} {f : Nat} {H : Hp} {N : List Str} {ws : List V} {ds : List PyData} (tb : Tabs T H) (mk : MOk M H) (hu : U ∈ M) (u : Urn H U f) (i : IsDs K (hid H M) ws ds) : SatU K T M U f H (L2.start N (.ref U :: ws)) (startU N ds) where
  s := ⟨tb, mk, by
    unfold L2.start startU
    simp only [List.length_append, List.length_map, List.length_replicate, List.length_cons, i.length]
    omega, fun j x e => by
    cases j with
    | zero => cases e
    | succ j =>
      have e' : (ds.map some ++ List.replicate (N.length - (ds.length + 1)) none)[j]? = some (some x) := e
      obtain ⟨v, h1, h2⟩ := isDs_dat2 i e'
      refine ⟨v, ?_, h2⟩
      unfold L2.start
      rw [List.length_cons, i.length]
      exact h1⟩
  mem := hu
  slot := rfl
  urn := u
theorem SatU.set {K : PySem.W.Frag} {T : TabL} {M : List Addr} {U : Addr} {f : Nat} {H : Hp} {σ : L2.St} {ρ : DEnv} (S : SatU K T M U f H σ ρ) {i : Nat} (hi : i ≠ 0) {v : V} {d : PyData} (h : IsD K (hid H M) v d) : SatU K T M U f H (σ.set i (some v)) (ρ.set i (some d)) :=
  ⟨S.s.set i h, S.mem, by rw [List.getElem?_set_ne hi]; exact S.slot, S.urn⟩
section
variable {X : Cx} {T : TabL}
theorem du_take {k' m : Nat} {low : Int} {y : Str} {p p2 pos : Pos} {e : Expr} {P : PD} {R : RE} (D : PU X.prog X.w X.K X.mg X.base T "_law_take" 1 1 1 preTake phTake) (hr : Room k' X.A) (hk : 1 ≤ k') (hg : Gl X "_law_take") (hu : PE X (.Name y p2) (tVar 0)) (ha : DU X T e m P R) (tot : ∀ ρ d, P ρ → R ρ d → d = .int low) (hl : 0 < low ∧ low < 1000000)
    (hs : starEach [e] X.env = [(false, eval e X.env)] := by rfl) (he : starEach (.Name y p2 :: [e]) X.env = (false, eval (.Name y p2) X.env) :: starEach [e] X.env := by rfl) : DU X T (.Call (.Name "_law_take" p) [.Name y p2, e] [] pos) (m + 1) P (rBelow low) :=
  du_w (du_callU D hr hk hg hu (dua_cons ha dua_nil hs) (fun ρ ds ⟨p1, _⟩ ⟨d, es, r, e1, e2⟩ => by
    have e1' : es = [] := e1
    subst e1'; subst e2
    exact ⟨rfl, low, by rw [tot ρ d p1 r], hl.1, hl.2⟩) (by decide) he (by rw [hs]; rfl)) (Nat.le_refl _) fun ρ p1 => ⟨⟨p1, trivial⟩, fun d ⟨ds, _, low', k, e1, e2, k0, k1⟩ => by
      rename_i r
      obtain ⟨d0, es, r0, e3, e4⟩ := r
      have e3' : es = [] := e3
      subst e3'; subst e4
      rw [tot ρ d0 p1 r0] at e1
      have e5 : low = low' := by injection e1 with e1; injection e1
      exact ⟨k, e2, k0, by rw [e5]; exact k1⟩⟩
theorem du_ix {n m : Nat} {P P' : PD} {R R' R2 : RE} {a b : Expr} {pos : Pos} (ha : DU X T a n P R) (hb : DU X T b m P' R') (hs : PlainIx b) (tot : ∀ ρ d e, P ρ → P' ρ → R ρ d → R' ρ e → ∃ z, phIx d e z ∧ R2 ρ z) : DU X T (.Subscript a b pos) (n + m) (fun ρ => P ρ ∧ P' ρ) R2 :=
  pe_weak (pe_ix ix_seq ha hb hs) fun σ H Q ⟨ρ, M, U, f, S, ⟨p, p'⟩, k⟩ => by
    refine ⟨ρ, M, U, f + m, by rw [show f + m + n = f + (n + m) by omega]; exact S, p, fun d v H1 r1 g1 u1 i1 => ?_⟩
    have S1 := S.gu g1 u1
    refine ⟨ρ, M, U, f, S1, p', fun e u H2 r2 g2 u2 i2 => ?_⟩
    obtain ⟨z, ⟨xs, i, e1, e2, e3⟩, q2⟩ := tot ρ d e p p' r1 r2
    subst e2
    cases i2
    obtain ⟨p, vs, rfl, hq, t⟩ := seq_parts (i1.gu g2 S.mem) e1
    obtain ⟨w, hw, iw⟩ := t.getD e3
    have kk := k z w H2 q2 (g1.trans g2) u2 iw
    rcases hq with hq | hq
    · exact .inr (.inl ⟨p, vs, i, w, rfl, rfl, SqT.of (hid_some hq).2, atI_nat hw, kk⟩)
    · exact .inl ⟨p, vs, i, w, rfl, rfl, SqL.of (hid_some hq).2, atI_nat hw, kk⟩
end
/-! ### list comprehensions whose turns draw -/
def ItU (K : PySem.W.Frag) (T : TabL) (M : List Addr) (J : It) (n : Nat) (Z : Nat → PyData → Prop) (H0 : Hp) : Prop := ∀ H M', MOk M' H → Le H0 M H M' →
  (∀ i, i < n → J.go i H ∧ ∀ x H', J.yld i H x H' → Gr T H H' ∧ ∃ d, Z i d ∧ IsD K (hid H' M') x d) ∧ J.stop n H
theorem ItIs.u {K : PySem.W.Frag} {T : TabL} {M : List Addr} {J : It} {ds : List PyData} {H0 : Hp} (h : ItIs K T M J ds H0) : ItU K T M J ds.length (fun i d => ds[i]? = some d) H0 := fun H M' mk l => by
  obtain ⟨h1, h2⟩ := h H M' mk l
  refine ⟨fun i hi => ?_, h2⟩
  obtain ⟨h3, h4⟩ := h1 i ds[i] (List.getElem?_eq_getElem hi)
  refine ⟨h3, fun x H' y => ?_⟩
  obtain ⟨h5, h6⟩ := h4 x H' y
  exact ⟨h5, ds[i], List.getElem?_eq_getElem hi, h6⟩
theorem itr_u {K : PySem.W.Frag} {T : TabL} {M : List Addr} {n : Nat} {H0 : Hp} : ItU K T M (Itr 0 n) n (fun i d => d = .int i) H0 := fun H M' mk l =>
  ⟨fun i hi => ⟨hi, fun x H' ⟨e1, e2⟩ => by
    subst e1; subst e2
    exact ⟨Gr.refl T _, _, rfl, by rw [Int.zero_add]; exact .int _⟩⟩, Nat.le_refl _⟩
theorem lcU_core {K : PySem.W.Frag} {T : TabL} {M : List Addr} {U : Addr} {f n n1 s : Nat} {own : List Nat} {J : It} {Z : Nat → PyData → Prop} {R' : PyData → Prop} {P2 : PD} {R : RE} {σ : L2.St} {ρ : DEnv} {H1 : Hp} {Q : VK} (ho : ∀ x, x ∈ own ↔ x = s) (hs0 : s ≠ 0) (hn : n ≤ 1000000) (S : SatU K T M U (f + n * n1) H1 σ ρ) (it : ItU K T M J n Z H1)
    (p2 : ∀ i d, i < n → Z i d → P2 ((wipeD ρ own).set s (some d)) ∧ ∀ y, R ((wipeD ρ own).set s (some d)) y → R' y)
    (k : ∀ ys v H', (∀ y ∈ ys, R' y) → ys.length = n → GU U T H1 H' → Urn H' U f → IsD K (hid H' M) v (.list ys) → Q v H') :
    ∀ D, H1 D = none → ∃ W : Nat → Nat → Hp → Prop, (∃ m, W 0 m (upd H1 D (.lst []))) ∧ ∀ i m H, W i m H →
      (J.stop i H ∧ Q (.ref D) H) ∨ (J.go i H ∧ ∃ Nx : Hp → Prop, (∀ H', Nx H' → ∃ m', m' < m ∧ W (i + 1) m' H') ∧ ∀ x H', J.yld i H x H' → gName s x (wipe σ own) H' fun σ2 H2 => wipe σ2 own = wipe σ own ∧ tYes σ2 H2 fun b H3 =>
        if b = true then tDU K T n1 P2 R σ2 H3 fun y H4 => ∃ acc, H4 D = some (.lst acc) ∧ acc.length < sizeLine ∧ Nx (upd H4 D (.lst (acc ++ [y]))) else Nx H3) := fun D hD => by
  have hDM : D ∉ M := S.s.fresh hD
  have hDU : D ≠ U := fun e => hDM (e ▸ S.mem)
  let Wd : Nat → Hp → Prop := fun i H2 => GU U T H1 H2 ∧ Urn H2 U (f + (n - i) * n1) ∧ ∃ acc ys, H2 D = some (.lst acc) ∧ IsDs K (hid H2 (D :: M)) acc ys ∧ (∀ y ∈ ys, R' y) ∧ acc.length = i
  have hrefl : ∀ {H2 : Hp}, GU U T H1 H2 → (∃ xs, H2 U = some (.lst xs)) → (∃ xs, H2 D = some (.lst xs)) → MOk (D :: M) H2 ∧ Le H1 M H2 (D :: M) := fun {H2} g u d => by
    obtain ⟨us, hu⟩ := u
    obtain ⟨dl, hd⟩ := d
    refine ⟨fun a ha => ?_, fun b o h nt => ?_⟩
    · rcases List.mem_cons.mp ha with e | ha
      · rw [e]; exact ⟨_, hd, nt_lst⟩
      · by_cases e : a = U
        · rw [e]; exact ⟨_, hu, nt_lst⟩
        · obtain ⟨o, h, nt⟩ := S.s.msk a ha
          exact ⟨o, g.1 _ _ h nt.1 e, nt⟩
    · obtain ⟨h1, h2⟩ := hid_some h
      refine hid_of ?_ (g.1 b o h2 nt fun e => h1 (e ▸ S.mem))
      simp only [List.mem_cons, not_or]
      exact ⟨ne_of_none h2 hD, h1⟩
  refine ⟨fun i m H2 => m = n - i ∧ i ≤ n ∧ Wd i H2, ⟨_, rfl, Nat.zero_le _, GU.gr (Gr.upd hD), by rw [Nat.sub_zero]; exact S.urn.gr (Gr.upd (T := T) hD), [], [], upd_same, .nil, fun y hy => (by cases hy), rfl⟩, ?_⟩
  rintro i m H2 ⟨rfl, hi, g2, u2, acc, ys, hacc, tacc, hys, hla⟩
  obtain ⟨mk2, le2⟩ := hrefl g2 u2.lst ⟨_, hacc⟩
  obtain ⟨it1, it2⟩ := it H2 (D :: M) mk2 le2
  by_cases hlt : i < n
  · obtain ⟨go, yl⟩ := it1 i hlt
    refine .inr ⟨go, fun H' => Wd (i + 1) H', fun H' w' => ⟨_, by omega, rfl, hlt, w'⟩, fun x H' y => ?_⟩
    obtain ⟨g3, d, hz, ix⟩ := yl x H' y
    obtain ⟨hP2, hR⟩ := p2 i d hlt hz
    have S2 : Sat K T (D :: M) H2 (wipe σ own) (wipeD ρ own) := (S.s.le (g2.2 S.s.tabs) mk2 le2).wipe own
    have w0 : 0 ∉ own := fun z => hs0 ((ho 0).1 z).symm
    have SU : SatU K T (D :: M) U (f + (n - i) * n1) H' ((wipe σ own).set s (some x)) ((wipeD ρ own).set s (some d)) :=
      ⟨(S2.gr g3).set s ix, List.mem_cons_of_mem _ S.mem, by rw [List.getElem?_set_ne hs0, wipe_get, if_neg w0]; exact S.slot, u2.gr g3⟩
    refine ⟨?_, ?_⟩
    · apply List.ext_getElem?
      intro j
      rw [wipe_get, wipe_get]
      by_cases hj : j ∈ own
      · have e := (ho j).1 hj
        subst e
        rw [if_pos hj, if_pos hj]
        by_cases hl : j < σ.length
        · rw [List.getElem?_set_self (by rw [wipe_length]; exact hl), List.getElem?_eq_getElem hl]; rfl
        · rw [List.getElem?_eq_none (by rw [List.length_set, wipe_length]; omega), List.getElem?_eq_none (by omega)]
      · rw [if_neg hj, if_neg hj, List.getElem?_set_ne (fun e => hj ((ho j).2 e.symm)), wipe_get, if_neg hj]
    · refine iteT (B := Wd (i + 1) H') ?_
      have hmul : (n - i) * n1 = (n - (i + 1)) * n1 + n1 := by
        rw [show n - i = (n - (i + 1)) + 1 by omega, Nat.succ_mul]
      rw [hmul] at SU
      refine ⟨_, D :: M, U, f + (n - (i + 1)) * n1, by rw [Nat.add_assoc]; exact SU, hP2, fun yd v H6 hRy g6 u6 iv => ?_⟩
      have hacc3 : H' D = some (.lst acc) := g3.1 _ _ hacc fun ps z => by cases z
      have hacc6 : H6 D = some (.lst acc) := g6.1 _ _ hacc3 (fun ps z => by cases z) hDU
      have g16 : GU U T H1 H6 := (g2.trans (GU.gr g3)).trans g6
      refine ⟨acc, hacc6, by rw [sizeLine_eq]; omega, ⟨fun b o h nt z => ?_, fun t => tabs_lst hacc6 (g16.2 t)⟩, ?_, acc ++ [v], ys ++ [yd], upd_same, ?_, ?_, ?_⟩
      · rw [upd_ne (ne_of_none h hD)]
        exact g16.1 b o h nt z
      · obtain ⟨n', m', c', h1, h2⟩ := u6
        exact ⟨n', m', c', by rw [upd_ne (Ne.symm hDU)]; exact h1, h2⟩
      · rw [hid_upd List.mem_cons_self]
        exact ((tacc.gr g3).gu g6 (List.mem_cons_of_mem _ S.mem)).snoc iv
      · intro z hz
        rcases List.mem_append.mp hz with hz | hz
        · exact hys z hz
        · rw [List.mem_singleton.mp hz]; exact hR _ hRy
      · rw [List.length_append, hla]; rfl
  · have e : i = n := by omega
    subst e
    refine .inl ⟨it2, k ys (.ref D) H2 hys (by rw [← tacc.length]; exact hla) g2 (by rw [Nat.sub_self, Nat.zero_mul] at u2; exact u2) (.lst (hid_of hDM hacc) (tacc.less fun a ha => List.mem_cons_of_mem _ ha))⟩
/-- over a range whose end is drawn -/
theorem lcU_rng {K : PySem.W.Frag} {T : TabL} {M : List Addr} {U : Addr} {f n0 n1 N s : Nat} {own : List Nat} {P1 P2 : PD} {A : RA} {R : RE} {R' : PyData → Prop} {σ : L2.St} {ρ : DEnv} {H : Hp} {Q : VK} (ho : ∀ x, x ∈ own ↔ x = s) (hs0 : s ≠ 0) (hN : N ≤ 1000000) (S : SatU K T M U (f + (n0 + N * n1)) H σ ρ) (p1 : P1 ρ)
    (hA : ∀ ds, A ρ ds → ∃ k : Int, ds = [.int k] ∧ 0 ≤ k ∧ k ≤ N) (p2 : ∀ i : Nat, P2 ((wipeD ρ own).set s (some (.int i))) ∧ ∀ y, R ((wipeD ρ own).set s (some (.int i))) y → R' y)
    (k : ∀ ys v H', (∀ y ∈ ys, R' y) → ys.length ≤ N → GU U T H H' → Urn H' U f → IsD K (hid H' M) v (.list ys) → Q v H') : tLc (iRng1 (tDUA K T n0 P1 A)) (gName s) tYes (tDU K T n1 P2 R) own σ H Q := by
  refine ⟨ρ, M, U, f + N * n1, S.less (by omega), p1, fun ds vs H2 r g u i => ?_⟩
  obtain ⟨j, rfl, k0, k1⟩ := hA ds r
  obtain ⟨v, rfl, iv⟩ := isDs_one i
  cases iv
  refine ⟨j, rfl, by omega, by omega, ?_⟩
  have hm := Nat.mul_le_mul_right n1 (show j.toNat ≤ N by omega)
  have S2 := (S.gu g u).less (n := (f + (N * n1 - j.toNat * n1)) + j.toNat * n1) (by omega)
  exact lcU_core (P2 := P2) (R := R) (R' := R') (Q := Q) ho hs0 (by omega) S2 itr_u (fun i d hi hz => by subst hz; exact p2 i) fun ys v H' hys hyl g' u' iv => k ys v H' hys (by omega) (g.trans g') (u'.less (by omega)) iv
section
variable {X : Cx} {T : TabL}
/-- over data -/
theorem du_lc {elt tg iter : Expr} {scope : Scope} {own : List (Str × Nat)} {s N n1 : Nat} {P P2 : PD} {I : RA} {R R2 : RE} {pos : Pos} (hc : X.calm = true) (hN : X.N.Nodup) (hi : DI X T tg iter I) (ok : BlkOk X.N X.env.scope scope own)
    (hg : ∀ (s' : Shared) (H : Hp) (C : Addr) (cl : List (Str × Addr)) (fp : List Addr), PG (X.blk s' H scope (compEnvC scope cl C X.env) fp) tg (gName s))
    (he : ∀ (s' : Shared) (H : Hp) (C : Addr) (cl : List (Str × Addr)) (fp : List Addr), DU (X.blk s' H scope (compEnvC scope cl C X.env) fp) T elt n1 P2 R)
    (ho : ∀ x, x ∈ own.map (·.2) ↔ x = s) (hs0 : s ≠ 0)
    (tot : ∀ ρ, P ρ → ∃ ds, I ρ ds ∧ ds.length ≤ N ∧ ds.length ≤ 1000000 ∧ (∀ d ∈ ds, P2 ((wipeD ρ (own.map (·.2))).set s (some d))) ∧ ∀ ys, ys.length = ds.length → (∀ y ∈ ys, ∃ d ∈ ds, R ((wipeD ρ (own.map (·.2))).set s (some d)) y) → R2 ρ (.list ys))
    (hs : ∀ x, foldedSetIterable iter X.env x = pure x := by intro _; rfl) : DU X T (.ListComp elt [⟨tg, iter, [], 0⟩] scope pos) (N * n1) P R2 :=
  pe_weak (pe_lc (tt := tYes) (te := tDU X.K T n1 P2 R) hc hN hi ok hg (fun _ _ _ _ _ => pts_nil) he hs) fun σ H Q ⟨ρ, M, U, f, S, p, k⟩ => by
    obtain ⟨ds, hI, hl, hl2, hp, hR⟩ := tot ρ p
    refine ⟨ρ, ds, M, S.s, hI, fun J H1 g1 _ its => ?_⟩
    have S1 := (S.less (n := (f + (N * n1 - ds.length * n1)) + ds.length * n1) (by have := Nat.mul_le_mul_right n1 hl; omega)).gr g1
    refine lcU_core (Z := fun i d => ds[i]? = some d) (R' := fun y => ∃ d ∈ ds, R ((wipeD ρ (own.map (·.2))).set s (some d)) y) ho hs0 hl2 S1 its.u (fun i d hlt hz => ⟨hp d (List.mem_of_getElem? hz), fun y hy => ⟨d, List.mem_of_getElem? hz, hy⟩⟩) fun ys v H' hys hyl g u iv => ?_
    exact k _ v H' (hR ys hyl hys) ((GU.gr g1).trans g) (u.less (by omega)) iv
end
end Vk

/-! ## VkVault -/
set_option Elab.async false
set_option linter.all false
set_option maxRecDepth 100000
set_option maxHeartbeats 2000000
/-! _law_of, _law_vault: what is drawn is a small vault. -/
namespace Vk
open PySem PySem.Spec PyProof.Rows L2 LamX StX
/-! ### _law_of -/
def preOf : List PyData → Prop := fun ds => ∃ d xs, ds = [d] ∧ seqOf d = some xs ∧ 0 < xs.length ∧ xs.length < 1000000
def phOf : Phi := fun ds z => ∃ d xs, ds = [d] ∧ seqOf d = some xs ∧ z ∈ xs
theorem sc__law_of : FnScope ["_law_urn", "_law_some_so"] ["_law_urn", "_law_some_so"] (defScope s_law_of) := ⟨rfl, rfl, rfl, by decide +kernel, rfl, by decide +kernel, by decide +kernel⟩
theorem bd__law_of : BindsSt s_law_of "_law_of" ["_law_urn", "_law_some_so"] := fun _ _ _ _ _ _ us hl => match us, hl with | [_, _], _ => rfl
/-! ### _law_vault -/
structure Tg (many : Int) (xs tags : KS) : Prop where
  cn : Cn tags
  sub : ∀ x ∈ tags, x ∈ xs
  pos : 1 ≤ tags.length
  len : (tags.length : Int) ≤ many
def preVault : List PyData → Prop := fun ds => ∃ (many : Int) (g : PyData) (xs : KS), ds = [.int many, g] ∧ isS g xs ∧ xs.Nodup ∧ 1 ≤ xs.length ∧ xs.length ≤ 10 ∧ 1 ≤ many ∧ many ≤ 4
def phVault : Phi := fun ds d => ∃ (many : Int) (g : PyData) (xs : KS) (K : KS) (F : FM), ds = [.int many, g] ∧ isS g xs ∧ d = vD K F ∧ Vlt4 K F ∧ Tg many xs K
theorem sc__law_vault : FnScope ["_law_urn", "_law_many_so", "_law_goods", "_law_tags", "_law_sets_so", "_law_lap"] ["_law_urn", "_law_many_so", "_law_goods"] (defScope s_law_vault) := ⟨rfl, rfl, rfl, by decide +kernel, rfl, by decide +kernel, by decide +kernel⟩
theorem bd__law_vault : BindsSt s_law_vault "_law_vault" ["_law_urn", "_law_many_so", "_law_goods"] := fun _ _ _ _ _ _ us hl => match us, hl with | [_, _, _], _ => rfl
theorem seq_strs {d : PyData} {a b : KS} (h : isS d a) (h' : isS d b) : a = b := by
  have := h.symm.trans h'
  exact mapStr_inj (Option.some.inj this)
theorem sd_of_sort {l : KS} (h : l.Nodup) : Cn (isort strLe l) := ⟨(isort_perm strLe l).nodup_iff.mpr h, isort_sorted strLe_total l⟩
/-- the first line -/
def rTags (many : Int) (xs : KS) : RE := fun _ d => ∃ tags : KS, d = lS tags ∧ Tg many xs tags
def pIn (many : Int) (g : PyData) : PD := fun ρ => ρ[1]? = some (some (.int many)) ∧ ρ[2]? = some (some g)
def pTags (many : Int) (xs : KS) : PD := fun ρ => ∃ tags : KS, ρ[3]? = some (some (lS tags)) ∧ Tg many xs tags
def rOne (many : Int) (xs : KS) : RE := fun ρ d => ∃ tags o : KS, ρ[3]? = some (some (lS tags)) ∧ d = dS o ∧ (∀ x ∈ o, x ∈ tags) ∧ o.length ≤ 1000
def rUp (n : Int) : RE := fun _ d => ∃ k : Int, d = .int k ∧ 1 ≤ k ∧ k ≤ n
structure Sets (tags : KS) (F : FM) : Prop where
  len : F.length ≤ 70
  sub : ∀ o ∈ F, (∀ x ∈ o, x ∈ tags) ∧ o.length ≤ 1000
def pSets (many : Int) (xs : KS) : PD := fun ρ => ∃ (tags : KS) (F : FM), ρ[3]? = some (some (lS tags)) ∧ Tg many xs tags ∧ ρ[4]? = some (some (lF F)) ∧ F.length ≤ 5 ∧ ∀ o ∈ F, (∀ x ∈ o, x ∈ tags) ∧ o.length ≤ 1000
def rFst (many : Int) (xs : KS) : RE := fun ρ d => ∃ tags : KS, ρ[3]? = some (some (lS tags)) ∧ Tg many xs tags ∧ d = dS tags
def rSnd : RE := fun ρ d => ∃ (tags : KS) (F : FM), ρ[3]? = some (some (lS tags)) ∧ d = dF F ∧ Least F ∧ ∀ o ∈ F, ∀ x ∈ o, x ∈ tags
def rVlt (many : Int) (xs : KS) : RE := fun _ d => ∃ K F, d = vD K F ∧ Vlt4 K F ∧ Tg many xs K
theorem slot_eq {ρ : DEnv} {i : Nat} {a b : PyData} (h : ρ[i]? = some (some a)) (h' : ρ[i]? = some (some b)) : a = b := by
  rw [h] at h'
  exact Option.some.inj (Option.some.inj h')
theorem lS_inj {a b : KS} (h : lS a = lS b) : a = b := by
  unfold lS at h
  injection h with h
  exact mapStr_inj h
theorem lF_inj {a b : FM} (h : lF a = lF b) : a = b := by
  unfold lF at h
  injection h with h
  have e : ∀ {a b : FM}, a.map dS = b.map dS → a = b := fun {a} => by
    induction a with
    | nil => intro b h; cases b with
      | nil => rfl
      | cons x b => cases h
    | cons x a ih => intro b h; cases b with
      | nil => cases h
      | cons y b =>
        rw [List.map_cons, List.map_cons] at h
        injection h with h1 h2
        have e1 : x = y := by unfold dS at h1; injection h1 with h1; exact mapStr_inj h1
        rw [e1, ih h2]
  exact e h
section
variable {X : Cx} {T : TabL}
theorem du_up {k' : Nat} {low : Int} {y : Str} {p p2 pos j pos1 pos2 : _} {e : Expr} {P : PD} {R : RE} (D : PU X.prog X.w X.K X.mg X.base T "_law_take" 1 1 1 preTake phTake) (hr : Room k' X.A) (hk : 1 ≤ k') (hg : Gl X "_law_take") (hu : PE X (.Name y p2) (tVar 0)) (ha : DU X T e 0 P R) (tot : ∀ ρ d, P ρ → R ρ d → d = .int low) (hl : 0 < low ∧ low < 1000000)
    (hs : starEach [e] X.env = [(false, eval e X.env)] := by rfl) (he : starEach (.Name y p2 :: [e]) X.env = (false, eval (.Name y p2) X.env) :: starEach [e] X.env := by rfl) : DU X T (.BinOp (.Constant (.int 1) j pos1) .Add (.Call (.Name "_law_take" p) [.Name y p2, e] [] pos) pos2) 1 P (rUp low) :=
  du_w (du_bin (P := pTrue) (R := fun _ d => d = .int 1) (R2 := rUp low) od_addI (du_de de_int fun ρ _ => ⟨_, rfl, rfl⟩) (du_take D hr hk hg hu ha tot hl hs he) fun ρ d e _ _ e1 ⟨k, e2, k0, k1⟩ => by
    have e1' : d = .int 1 := e1
    subst e1'; subst e2
    exact ⟨_, ⟨1, k, rfl, rfl, rfl⟩, 1 + k, rfl, by omega, by omega⟩) (Nat.le_refl _) fun ρ p => ⟨⟨trivial, p⟩, fun d h => h⟩
end
section
variable {P : Program} {w : World} {K : PySem.W.Frag} {mg : Str → Option Value} {base : Heap} {T : TabL} {c : Addr}
theorem ok_of_fn {f : Addr} {fd : FuncData} (F : Fun K "_law_of" "_law_of" s_law_of f fd) (B : Bl mg) (D : PU P w K mg base T "_law_take" 1 1 1 preTake phTake) : FnOk P w K mg base CX0 2 f fd ["_law_urn", "_law_some_so"] (spU K T 1 1 preOf phOf) := by
  refine F.ok sc__law_of (fun vs H Q E h => h.1) (fun cdv A outer s H vs Q E hr h => ?_)
  have nd := sc__law_of.nd
  obtain ⟨_, U, ws, ds, M, fu, rfl, tb, mk', hu, urn, iw, ⟨d, xs, rfl, hd, hp, hm⟩, q⟩ := h
  refine ⟨_, pss_one (ps_ret (du_ix (P := fun ρ => ρ[1]? = some (some d)) (R := fun _ e => e = d) (R2 := fun _ z => z ∈ xs) (du_de (de_var (pv 1)) fun ρ p => ⟨d, p, rfl⟩)
    (du_take (low := (xs.length : Int)) D hr (Nat.le_refl _) (by rfl) (pv 0) (du_callB (R := fun _ e => e = .int (xs.length : Int)) cd_len (by rfl) B.len_ rfl (dua_cons (du_de (P := fun ρ => ρ[1]? = some (some d)) (R := fun _ e => e = d) (de_var (pv 1)) fun ρ p => ⟨d, p, rfl⟩) dua_nil) (fun ρ ds _ ⟨e, es, e1, e2, e3⟩ => by
      have e1' : e = d := e1
      have e2' : es = [] := e2
      subst e1'; subst e2'; subst e3
      exact ⟨_, iLen hd, rfl⟩)) (fun ρ e _ h => h) (by omega)) (fun _ _ => rfl) (fun ρ e1 e2 _ _ h1 ⟨k, h2, k0, k1⟩ => by
      have h1' : e1 = d := h1
      subst h1'; subst h2
      have hk : k.toNat < xs.length := by omega
      exact ⟨xs[k.toNat], ⟨xs, k.toNat, hd, by rw [Int.toNat_of_nonneg k0], List.getElem?_eq_getElem hk⟩, List.getElem_mem hk⟩))), ?_⟩
  refine ⟨_, M, U, fu, start_satU tb mk' hu urn iw, ⟨rfl, rfl, trivial⟩, fun z v H1 r g1 u1 i1 => ?_⟩
  exact q z v H1 ⟨d, xs, rfl, hd, r⟩ g1 u1 i1
theorem ok_of (X : Txs K mg c) : PU P w K mg base T "_law_of" 2 1 1 preOf phOf := by
  obtain ⟨f, fd, hm, F⟩ := X.t__law_of
  exact ⟨f, fd, _, hm, F.kp, F.binds bd__law_of, rfl, ok_of_fn F X.bl (ok_take X)⟩
theorem ok_vault_fn {f : Addr} {fd : FuncData} (F : Fun K "_law_vault" "_law_vault" s_law_vault f fd) (B : Bl mg) (D : PU P w K mg base T "_law_take" 1 1 1 preTake phTake) (Dp : PU P w K mg base T "_law_pick" 2 2 10 prePick phPick)
    (Dl : PDef P w K mg base T "_law_least" 2 1 ph_law_least) : FnOk P w K mg base CX0 3 f fd ["_law_urn", "_law_many_so", "_law_goods"] (spU K T 2 68 preVault phVault) := by
  refine F.ok sc__law_vault (fun vs H Q E h => h.1) (fun cdv A outer s H vs Q E hr h => ?_)
  have nd := sc__law_vault.nd
  obtain ⟨_, U, ws, ds, M, fu, rfl, tb, mk', hu, urn, iw, ⟨many, g, xs, rfl, hg, hxd, hx1, hx10, hm1, hm4⟩, q⟩ := h
  have e1 : ∀ {Xc : Cx} {m : Nat} {P1 : PD} {A : RA}, True := trivial
  refine ⟨_, pss_cons (ps_set (i := 3) nd rfl (by first | exact .inl rfl | exact .inr rfl)
      (du_callB (P := fun ρ => (pIn many g ρ ∧ pIn many g ρ ∧ pTrue ρ) ∧ pTrue ρ) (R := rTags many xs) (cd_sorted (hu64 hr)) (by rfl) B.sorted_ rfl (dua_cons (du_callU Dp hr (by decide) (by rfl) (pv 0)
        (dua_cons (du_de (P := pIn many g) (R := fun _ d => d = g) (de_var (pv 2)) fun ρ p => ⟨g, p.2, rfl⟩)
        (dua_cons (du_up (low := many) D hr (by decide) (by rfl) (pv 0) (du_de (P := pIn many g) (R := fun _ d => d = .int many) (de_var (pv 1)) fun ρ p => ⟨_, p.1, rfl⟩) (fun ρ d _ h => h) (by omega)) dua_nil))
        (fun ρ ds _ ⟨d, es, r1, ⟨d2, es2, ⟨k, r2, k1, k2⟩, r3, r4⟩, r5⟩ => by
          have r1' : d = g := r1
          have r3' : es2 = [] := r3
          subst r1'; subst r3'; subst r2; subst r4; subst r5
          exact ⟨rfl, d, xs, k, rfl, hg, hx10, by omega, by omega⟩)) dua_nil)
        (fun ρ ds _ ⟨d, es, ⟨ds1, ⟨d1, es1, r1, ⟨d2, es2, ⟨k, r2, k1, k2⟩, r3, r4⟩, r5⟩, g', xs', s', ys, e1, e2, e3, e4, e5, e6⟩, r6, r7⟩ => by
          have r1' : d1 = g := r1
          have r3' : es2 = [] := r3
          have r6' : es = [] := r6
          subst r1'; subst r3'; subst r2; subst r4; subst r5; subst r6'; subst r7; subst e3
          injection e1 with e7 e8
          injection e8 with e8
          injection e8 with e8
          subst e7; subst e8
          have ex : xs' = xs := seq_strs e2 hg
          subst ex
          refine ⟨_, iSortS ys, isort strLe ys, rfl, sd_of_sort (e5 hxd), fun x hx => e6 x (mem_isort.1 hx), ?_, ?_⟩
          · rw [(isort_perm strLe ys).length_eq, e4]; omega
          · rw [(isort_perm strLe ys).length_eq, e4]; omega)))
    (pss_cons (ps_setLc (i := 4) (own := [("_law_lap", 5)]) (g := gName 5) (tt := tYes) (te := tDU K T 11 (pTags many xs) (rOne many xs)) rfl nd rfl rfl (sw_true rfl rfl rfl (by decide +kernel))
      (pi_range1 (by rfl) B.range_ (dua_cons (du_take (low := 6) D hr (by decide) (by rfl) (pv 0) (du_de (P := pTrue) (R := fun _ d => d = .int 6) de_int fun ρ _ => ⟨_, rfl, rfl⟩) (fun ρ d _ h => h) (by omega)) dua_nil))
      (blkOk_by (by kernel_rfl)) (fun _ _ _ _ _ => pg_name (i := 5) nd rfl (by first | exact .inl rfl | exact .inr rfl)) (fun _ _ _ _ _ => pts_nil)
      (fun _ _ _ _ _ => du_w (n' := 11) (P' := pTags many xs) (R' := rOne many xs) (du_callTy (R := rOne many xs) cd_tuple (by rfl) B.tuple_ rfl (dua_cons (du_callU Dp hr (by decide) (by rfl) (pv 0)
        (dua_cons (du_de (P := pTags many xs) (R := fun ρ d => ∃ tags : KS, ρ[3]? = some (some (lS tags)) ∧ d = lS tags ∧ Tg many xs tags) (de_var (pv 3)) fun ρ ⟨tags, p, t⟩ => ⟨_, p, tags, p, rfl, t⟩)
        (dua_cons (du_up (low := 3) D hr (by decide) (by rfl) (pv 0) (du_de (P := pTrue) (R := fun _ d => d = .int 3) de_int fun ρ _ => ⟨_, rfl, rfl⟩) (fun ρ d _ h => h) (by omega)) dua_nil))
        (fun ρ ds _ ⟨d, es, ⟨tags, r0, r1, t⟩, ⟨d2, es2, ⟨k, r2, k1, k2⟩, r3, r4⟩, r5⟩ => by
          have r3' : es2 = [] := r3
          subst r1; subst r3'; subst r2; subst r4; subst r5
          have := t.len
          exact ⟨rfl, _, tags, k, rfl, rfl, by omega, by omega, by omega⟩)) dua_nil)
        (fun ρ ds _ ⟨d, es, ⟨ds1, ⟨d1, es1, ⟨tags, r0, r1, t⟩, ⟨d2, es2, ⟨k, r2, k1, k2⟩, r3, r4⟩, r5⟩, g', xs', s', ys, e1, e2, e3, e4, e5, e6⟩, r6, r7⟩ => by
          have r3' : es2 = [] := r3
          have r6' : es = [] := r6
          subst r1; subst r3'; subst r2; subst r4; subst r5; subst r6'; subst r7; subst e3
          injection e1 with e7 e8
          subst e7
          have ex : xs' = tags := seq_strs e2 (isS_lS tags)
          subst ex
          have := t.len
          exact ⟨_, iTuple (isS_lS ys), xs', ys, r0, rfl, e6, by omega⟩)) (by decide) fun ρ p => ⟨⟨⟨p, trivial, trivial⟩, trivial⟩, fun d h => h⟩))
    (pss_one (ps_ret (du_tup (A := rCons (rFst many xs) (rCons rSnd rNil))
      (dua_cons (du_callTy (P := fun ρ => pSets many xs ρ ∧ pTrue ρ) (R := rFst many xs) cd_tuple (by rfl) B.tuple_ rfl (dua_cons (du_de (P := pSets many xs) (R := fun ρ d => ∃ tags : KS, ρ[3]? = some (some (lS tags)) ∧ Tg many xs tags ∧ d = lS tags) (de_var (pv 3)) fun ρ ⟨tags, F, p, t, _⟩ => ⟨_, p, tags, p, t, rfl⟩) dua_nil)
          (fun ρ ds _ ⟨d, es, ⟨tags, r0, t, r1⟩, r2, r3⟩ => by
            have r2' : es = [] := r2
            subst r1; subst r2'; subst r3
            exact ⟨_, iTuple (isS_lS tags), tags, r0, t, rfl⟩))
        (dua_cons (du_callD (R := rSnd) Dl hr (by decide) (by rfl) (dua_cons (du_bin (R2 := fun ρ d => ∃ (tags : KS) (F : FM), ρ[3]? = some (some (lS tags)) ∧ d = lF F ∧ Sets tags F) od_addL
            (du_de (P := pSets many xs) (R := fun ρ d => ∃ (tags : KS) (F : FM), ρ[3]? = some (some (lS tags)) ∧ d = lF F ∧ F.length ≤ 5 ∧ ∀ o ∈ F, (∀ x ∈ o, x ∈ tags) ∧ o.length ≤ 1000) (de_var (pv 4)) fun ρ ⟨tags, F, p, t, p4, h5, ho⟩ => ⟨_, p4, tags, F, p, rfl, h5, ho⟩)
            (du_bin (R2 := fun _ d => d = lF [[]] ∨ d = lF []) od_mulL (du_de (P := pTrue) (R := fun _ d => d = lF [[]]) (de_lst (da_cons (de_tup da_nil) da_nil)) fun ρ _ => ⟨_, iLst (i1 (iTup iNil (by decide))) (by decide), rfl⟩)
              (du_callTy (R := fun _ d => ∃ b : Bool, d = .int (if b then 1 else 0)) cd_int (by rfl) B.int_ rfl (dua_cons (du_cmp (R2 := fun _ d => ∃ b : Bool, d = .bool b) (od_eq (hu64 hr)) (du_take (low := 12) D hr (by decide) (by rfl) (pv 0) (du_de (P := pTrue) (R := fun _ d => d = .int 12) de_int fun ρ _ => ⟨_, rfl, rfl⟩) (fun ρ d _ h => h) (by omega)) (du_de (P := pTrue) (R := fun _ d => d = .int 0) de_int fun ρ _ => ⟨_, rfl, rfl⟩) (by rfl)
                (fun ρ d e _ _ ⟨k, h, _⟩ h2 => by
                  have h2' : e = .int 0 := h2
                  subst h; subst h2'
                  exact ⟨_, ⟨rfl, rfl, rfl⟩, _, rfl⟩)) dua_nil)
                (fun ρ ds _ ⟨d, es, ⟨b, r1⟩, r2, r3⟩ => by
                  have r2' : es = [] := r2
                  subst r1; subst r2'; subst r3
                  exact ⟨_, .inl ⟨b, rfl, rfl⟩, b, rfl⟩))
              (fun ρ d e _ _ r1 ⟨b, r2⟩ => by
                have r1' : d = lF [[]] := r1
                subst r1'; subst r2
                exact ⟨_, ⟨_, b, rfl, rfl, by decide, rfl⟩, by cases b; exact .inr rfl; exact .inl rfl⟩))
            (fun ρ d e _ _ ⟨tags, F, r0, r1, h5, ho⟩ r2 => by
              subst r1
              rcases r2 with r2 | r2
              · subst r2
                refine ⟨_, ⟨_, _, rfl, rfl, by rw [List.length_map]; show F.length + 1 ≤ _; omega, rfl⟩, tags, F ++ [[]], r0, by unfold lF; rw [List.map_append], by rw [List.length_append]; show F.length + 1 ≤ 70; omega, fun o h => ?_⟩
                rcases List.mem_append.mp h with h | h
                · exact ho o h
                · rw [List.mem_singleton.mp h]; exact ⟨fun x hx => (by cases hx), by decide⟩
              · subst r2
                exact ⟨_, ⟨_, _, rfl, rfl, by rw [List.length_map]; show F.length + 0 ≤ _; omega, rfl⟩, tags, F, r0, by unfold lF; rw [List.map_nil, List.append_nil], by omega, ho⟩)) dua_nil)
            (fun ρ ds _ ⟨d, es, ⟨tags, F, r0, r1, hS⟩, r2, r3⟩ => by
              have r2' : es = [] := r2
              subst r1; subst r2'; subst r3
              refine ⟨rfl, _, ⟨_, F, rfl, isF_lF F, fun k hk => (hS.sub k hk).2, few_sset (by have := hS.len; omega) (fun k hk => (hS.sub k hk).2), rfl⟩, tags, lsF F, r0, rfl, least_lsF F, fun o ho x hx => ?_⟩
              obtain ⟨o', h1, h2⟩ := lsF_mem ho
              exact (hS.sub o' h1).1 x ((h2 x).1 hx))) dua_nil)) (fun ρ ds ⟨d, es, _, ⟨d2, es2, _, r1, r2⟩, r3⟩ => by
                have r1' : es2 = [] := r1
                subst r1'; subst r2; subst r3
                show 2 ≤ 1000000; decide))))), ?_⟩
  have S0 := start_satU (N := ["_law_urn", "_law_many_so", "_law_goods", "_law_tags", "_law_sets_so", "_law_lap"]) tb mk' hu urn iw
  refine ⟨_, M, U, fu + 57, S0, ⟨⟨⟨rfl, rfl⟩, ⟨rfl, rfl⟩, trivial⟩, trivial⟩, fun d1 v1 H1 ⟨tags, hd1, ht⟩ g1 u1 i1 => ?_⟩
  subst hd1
  have S1 := (S0.gu g1 u1).set (i := 3) (by decide) i1
  refine lcU_rng (Q := fun x H' => gName 4 x _ H' _) (n0 := 1) (P1 := fun ρ => pTrue ρ ∧ pTrue ρ) (A := rCons (rBelow 6) rNil) (P2 := pTags many xs) (R := rOne many xs) (N := 5) (n1 := 11) (f := fu + 1) (R' := fun y => ∃ o : KS, y = dS o ∧ (∀ x ∈ o, x ∈ tags) ∧ o.length ≤ 1000) (own := [5]) (s := 5) (fun x => List.mem_singleton) (by decide) (by decide) (S1.less (by omega)) ⟨trivial, trivial⟩ (fun ds2 r2 => ?_) (fun i => ⟨⟨tags, rfl, ht⟩, fun y ⟨tags', o, e1, e2, e3, e4⟩ => ?_⟩) fun ys v H3 hys hyl g3 u3 i3 => ?_
  · obtain ⟨d2, es2, ⟨k, rk, k0, k6⟩, r3, r4⟩ := r2
    have r3' : es2 = [] := r3
    subst rk; subst r3'; subst r4
    exact ⟨k, rfl, k0, by omega⟩
  · have e : tags = tags' := lS_inj (Option.some.inj (Option.some.inj (show (some (some (lS tags)) : Option (Option PyData)) = some (some (lS tags')) from e1)))
    subst e
    exact ⟨o, e2, e3, e4⟩
  obtain ⟨F, hF, hFo⟩ : ∃ F : FM, ys = F.map dS ∧ ∀ o ∈ F, (∀ x ∈ o, x ∈ tags) ∧ o.length ≤ 1000 := by
    clear hyl i3
    induction ys with
    | nil => exact ⟨[], rfl, fun o ho => by cases ho⟩
    | cons y ys ih =>
      obtain ⟨F, h1, h2⟩ := ih fun z hz => hys z (List.mem_cons_of_mem _ hz)
      obtain ⟨o, h3, h4, h5⟩ := hys y List.mem_cons_self
      refine ⟨o :: F, by rw [h1, h3]; rfl, fun o' ho' => ?_⟩
      rcases List.mem_cons.mp ho' with e | h
      · rw [e]; exact ⟨h4, h5⟩
      · exact h2 o' h
  subst hF
  have hFl : F.length ≤ 5 := by rw [List.length_map] at hyl; exact hyl
  have S3' := (S1.gu g3 u3).set (i := 4) (by decide) i3
  have hp : pSets many xs (((startU ["_law_urn", "_law_many_so", "_law_goods", "_law_tags", "_law_sets_so", "_law_lap"] [.int many, g]).set 3 (some (lS tags))).set 4 (some (.list (F.map dS)))) := ⟨tags, F, rfl, ht, rfl, hFl, hFo⟩
  refine ⟨_, M, U, fu, S3', by repeat' (first | exact hp | exact trivial | constructor), fun d4 v4 H4 r4 g4 u4 i4 => ?_⟩
  obtain ⟨ds4, ⟨da, es4, ⟨ta, r5, t5, r6⟩, ⟨db, es5, ⟨tb', Fb, r7, r8, r9, r10⟩, r11, r12⟩, r13⟩, r14⟩ := r4
  have r11' : es5 = [] := r11
  have et : ta = tb' := lS_inj (slot_eq r5 r7)
  subst et; subst r6; subst r8; subst r11'; subst r12; subst r13; subst r14
  refine q _ v4 H4 ⟨many, g, xs, ta, Fb, rfl, hg, rfl, ⟨t5.cn, ?_, r9, r10⟩, t5⟩ ((g1.trans g3).trans g4) u4 i4
  have := t5.len
  omega
theorem ok_vault (X : Txs K mg c) : PU P w K mg base T "_law_vault" 3 2 68 preVault phVault := by
  obtain ⟨f, fd, hm, F⟩ := X.t__law_vault
  exact ⟨f, fd, _, hm, F.kp, F.binds bd__law_vault, rfl, ok_vault_fn F X.bl (ok_take X) (ok_pick X) (ok__law_least X)⟩
end
end Vk

/-! ## VkRight -/
set_option Elab.async false
set_option linter.all false
set_option maxRecDepth 100000
set_option maxHeartbeats 4000000
/-! _law_right: True, whatever is drawn. -/
namespace Vk
open PySem PySem.Spec PyProof.Rows L2 LamX StX
def goods5 : KS := ["ax", "b", "cog", "d", "zip"]
def goods3 : KS := ["e", "m", "y"]
def folk4 : KS := ["ann", "bob", "cid", "zoe"]
theorem goods_apart : ∀ x ∈ goods5, x ∉ goods3 := by decide +kernel
def preRight : List PyData → Prop := fun ds => ds = []
def phRight : Phi := fun ds d => ds = [] ∧ d = .bool true
def nR : List Str := ["_law_urn", "_law_vault_so", "_law_inner_so", "_law_gone_so", "_law_stays_so", "_law_tag", "_law_way_so", "_law_holders_so"]
theorem sc__law_right : FnScope ["_law_urn", "_law_vault_so", "_law_inner_so", "_law_gone_so", "_law_stays_so", "_law_tag", "_law_way_so", "_law_holders_so"] ["_law_urn"] (defScope s_law_right) := ⟨rfl, rfl, rfl, by decide +kernel, rfl, by decide +kernel, by decide +kernel⟩
theorem bd__law_right : BindsSt s_law_right "_law_right" ["_law_urn"] := fun _ _ _ _ _ _ us hl => match us, hl with | [_], _ => rfl
/-- the two vaults -/
structure Two (K : KS) (F : FM) (K2 : KS) (F2 : FM) : Prop where
  v : Vlt4 K F
  t : Tg 4 goods5 K
  v2 : Vlt4 K2 F2
  t2 : Tg 3 goods3 K2
theorem Two.house {K : KS} {F : FM} {K2 : KS} {F2 : FM} (V : Two K F K2 F2) {x : Str} (hx : x ∈ K) : HouseROk K F x K2 F2 := houseOk4 V.v V.v2 (by have := V.t2.len; omega) hx fun y hy _ h2 => goods_apart y (V.t.sub y hy) (V.t2.sub y h2)
def pVs : PD := fun ρ => ∃ K F K2 F2, ρ[1]? = some (some (vD K F)) ∧ ρ[2]? = some (some (vD K2 F2)) ∧ Two K F K2 F2
def rTag : RE := fun ρ d => ∃ K F x, ρ[1]? = some (some (vD K F)) ∧ d = .str x ∧ x ∈ K
def rIn2 : RE := fun ρ d => ∃ K F K2 F2, ρ[1]? = some (some (vD K F)) ∧ d = vD K2 F2 ∧ Two K F K2 F2
def rFolk : RE := fun ρ d => ∃ K F hs, ρ[1]? = some (some (vD K F)) ∧ d = dS hs ∧ hs.length = K.length
theorem vD_inj {K K2 : KS} {F F2 : FM} (h : vD K F = vD K2 F2) : K = K2 := by
  unfold vD dS at h
  injection h with h
  injection h with h h2
  injection h with h
  exact mapStr_inj h
theorem vD_fst (K : KS) (F : FM) {ρ : DEnv} (h : ρ[1]? = some (some (vD K F))) : rBin phIx (rVar 1) (rK (.int 0)) ρ (dS K) := iIx0 (d := vD K F) (xs := [dF F]) h rfl
theorem strs_of {ys : List PyData} {xs : KS} (h : ∀ y ∈ ys, y ∈ xs.map PyData.str) : ∃ hs : KS, ys = hs.map PyData.str := by
  induction ys with
  | nil => exact ⟨[], rfl⟩
  | cons y ys ih =>
    obtain ⟨hs, e⟩ := ih fun z hz => h z (List.mem_cons_of_mem _ hz)
    obtain ⟨x, _, e2⟩ := List.mem_map.mp (h y List.mem_cons_self)
    exact ⟨x :: hs, by rw [e, ← e2]; rfl⟩
/-- which keys are gone, which are left in -/
structure Gs (K : KS) (i : Nat) (g s : KS) : Prop where
  gin : ∀ x ∈ g, x ∈ K.take i
  sin : ∀ x ∈ s, x ∈ K.take i ∧ x ∉ g
  len : g.length + s.length ≤ i
theorem Gs.step {K : KS} (nd : K.Nodup) {i : Nat} (hi : i < K.length) {g s : KS} (G : Gs K i g s) (a b : Bool) (hab : ¬ (a = true ∧ b = true)) : Gs K (i + 1) (g ++ if a then [K[i]] else []) (s ++ if b then [K[i]] else []) := by
  have e : K.take (i + 1) = K.take i ++ [K[i]] := take_succ hi
  have hn : K[i] ∉ K.take i := fun z => by
    have h2 : (K.take (i + 1)).Nodup := nd.sublist (List.take_sublist _ _)
    rw [e] at h2
    exact (List.nodup_append.mp h2).2.2 _ z _ List.mem_cons_self rfl
  refine ⟨fun x hx => ?_, fun x hx => ?_, ?_⟩
  · rw [e]
    rcases List.mem_append.mp hx with h | h
    · exact List.mem_append_left _ (G.gin x h)
    · cases a with
      | true => exact List.mem_append_right _ h
      | false => cases h
  · rw [e]
    rcases List.mem_append.mp hx with h | h
    · refine ⟨List.mem_append_left _ (G.sin x h).1, fun z => ?_⟩
      rcases List.mem_append.mp z with z | z
      · exact (G.sin x h).2 z
      · cases a with
        | true => rw [List.mem_singleton.mp z] at h; exact hn (G.sin _ h).1
        | false => cases z
    · cases b with
      | false => cases h
      | true =>
        rw [List.mem_singleton.mp h]
        refine ⟨List.mem_append_right _ List.mem_cons_self, fun z => ?_⟩
        rcases List.mem_append.mp z with z | z
        · exact hn (G.gin _ z)
        · cases a with
          | true => exact hab ⟨rfl, rfl⟩
          | false => cases z
  · have := G.len
    cases a <;> cases b <;> simp only [List.length_append] <;> first | (exact absurd ⟨rfl, rfl⟩ hab) | (simp; omega)
section
variable {P : Program} {w : World} {K : PySem.W.Frag} {mg : Str → Option Value} {base : Heap} {T : TabL} {c Pt : Addr}
theorem ok_right_fn {f : Addr} {fd : FuncData} (F : Fun K "_law_right" "_law_right" s_law_right f fd) (B : Bl mg) (D : PU P w K mg base T "_law_take" 1 1 1 preTake phTake) (Do : PU P w K mg base T "_law_of" 2 1 1 preOf phOf) (Dv : PU P w K mg base T "_law_vault" 3 2 68 preVault phVault)
    (Dloss : PDef P w K mg base T "_law_loss_right" 16 4 ph_loss_right) (Dlocks : PDef P w K mg base T "_law_locks" 1 1 ph_law_locks) (Dbar : PDef P w K mg base T "barriers" 13 1 ph_barriers)
    (Dpeople : PDef P w K mg base T "_law_people_right" 15 2 ph_people_right) (Dhouse : PDef P w K mg base T "_law_house_right" 16 3 ph_house_right) (Dlots : PDef P w K mg base T "_law_lots_right" 15 1 ph_lots_right) : FnOk P w K mg base CX0 17 f fd ["_law_urn"] (spU K T 0 200 preRight phRight) := by
  refine F.ok sc__law_right (fun vs H Q E h => h.1) (fun cdv A outer s H vs Q E hr h => ?_)
  have nd := sc__law_right.nd
  obtain ⟨_, U, ws, ds, M, fu, rfl, tb, mk', hu, urn, iw, rfl, q⟩ := h
  refine ⟨_, pss_cons (ps_par (i := 1) (j := 2) rfl nd rfl rfl (by decide) rfl rfl (dua_cons (du_w (P' := pTrue) (n' := 68) (R' := rVlt 4 goods5) (du_callU Dv hr (by decide) (by rfl) (pv 0)
          (dua_cons (du_de (P := pTrue) (R := fun _ d => d = .int 4) de_int fun ρ _ => ⟨_, rfl, rfl⟩) (dua_cons (du_de (P := pTrue) (R := fun _ d => d = lS goods5) (de_lst (da_cons de_str (da_cons de_str (da_cons de_str (da_cons de_str (da_cons de_str da_nil)))))) fun ρ _ => ⟨_, iLst (iCons rfl (iCons rfl (iCons rfl (iCons rfl (i1 rfl))))) (by decide), rfl⟩) dua_nil))
          (fun ρ ds _ ⟨d, es, r1, ⟨d2, es2, r2, r3, r4⟩, r5⟩ => by
            have r1' : d = .int 4 := r1
            have r2' : d2 = lS goods5 := r2
            have r3' : es2 = [] := r3
            subst r1'; subst r2'; subst r3'; subst r4; subst r5
            exact ⟨rfl, 4, _, goods5, rfl, isS_lS _, by decide +kernel, by decide, by decide, by decide, by decide⟩)) (by decide) fun ρ _ => ⟨⟨trivial, trivial, trivial⟩, fun d ⟨ds, ⟨d1, es, r1, ⟨d2, es2, r2, r3, r4⟩, r5⟩, many, g, xs, K, F, e1, e2, e3, e4, e5⟩ => by
            have r1' : d1 = .int 4 := r1
            have r2' : d2 = lS goods5 := r2
            have r3' : es2 = [] := r3
            subst r1'; subst r2'; subst r3'; subst r4; subst r5
            injection e1 with e6 e7
            injection e7 with e7
            injection e6 with e6
            subst e6; subst e7
            have ex : xs = goods5 := seq_strs e2 (isS_lS goods5)
            subst ex
            exact ⟨K, F, e3, e4, e5⟩⟩)
        (dua_cons (du_w (P' := pTrue) (n' := 68) (R' := rVlt 3 goods3) (du_callU Dv hr (by decide) (by rfl) (pv 0)
          (dua_cons (du_de (P := pTrue) (R := fun _ d => d = .int 3) de_int fun ρ _ => ⟨_, rfl, rfl⟩) (dua_cons (du_de (P := pTrue) (R := fun _ d => d = lS goods3) (de_lst (da_cons de_str (da_cons de_str (da_cons de_str da_nil)))) fun ρ _ => ⟨_, iLst (iCons rfl (iCons rfl (i1 rfl))) (by decide), rfl⟩) dua_nil))
          (fun ρ ds _ ⟨d, es, r1, ⟨d2, es2, r2, r3, r4⟩, r5⟩ => by
            have r1' : d = .int 3 := r1
            have r2' : d2 = lS goods3 := r2
            have r3' : es2 = [] := r3
            subst r1'; subst r2'; subst r3'; subst r4; subst r5
            exact ⟨rfl, 3, _, goods3, rfl, isS_lS _, by decide +kernel, by decide, by decide, by decide, by decide⟩)) (by decide) fun ρ _ => ⟨⟨trivial, trivial, trivial⟩, fun d ⟨ds, ⟨d1, es, r1, ⟨d2, es2, r2, r3, r4⟩, r5⟩, many, g, xs, K, F, e1, e2, e3, e4, e5⟩ => by
            have r1' : d1 = .int 3 := r1
            have r2' : d2 = lS goods3 := r2
            have r3' : es2 = [] := r3
            subst r1'; subst r2'; subst r3'; subst r4; subst r5
            injection e1 with e6 e7
            injection e7 with e7
            injection e6 with e6
            subst e6; subst e7
            have ex : xs = goods3 := seq_strs e2 (isS_lS goods3)
            subst ex
            exact ⟨K, F, e3, e4, e5⟩⟩) dua_nil)) (by rfl))
    (pss_cons (ps_par (i := 3) (j := 4) rfl nd rfl rfl (by decide) rfl rfl (da_cons (T := T) (de_lst da_nil) (da_cons (de_lst da_nil) da_nil)) (by rfl))
    (pss_cons (ps_for PassesOwn.never rfl (di_seq (T := T) (de_ix (de_var (pv 1)) de_int (fun _ _ => rfl))) (pg_name (i := 5) nd rfl (by first | exact .inl rfl | exact .inr rfl))
      (pss_cons (ps_set (i := 6) nd rfl (by first | exact .inl rfl | exact .inr rfl) (du_take (low := 4) D hr (by decide) (by rfl) (pv 0) (du_de (P := pTrue) (R := fun _ d => d = .int 4) de_int fun ρ _ => ⟨_, rfl, rfl⟩) (fun ρ d _ h => h) (by omega)))
      (pss_cons (ps_set (i := 3) nd rfl (by first | exact .inl rfl | exact .inr rfl) (de_bin (T := T) od_addL (de_var (pv 3)) (de_bin od_mulL (de_lst (da_cons (de_var (pv 5)) da_nil)) (de_callTy cd_int (by rfl) B.int_ rfl (da_cons (de_cmp (od_eq (hu64 hr)) (de_var (pv 6)) de_int (by rfl)) da_nil)))))
      (pss_one (ps_set (i := 4) nd rfl (by first | exact .inl rfl | exact .inr rfl) (de_bin (T := T) od_addL (de_var (pv 4)) (de_bin od_mulL (de_lst (da_cons (de_var (pv 5)) da_nil)) (de_callTy cd_int (by rfl) B.int_ rfl (da_cons (de_cmp (od_eq (hu64 hr)) (de_var (pv 6)) de_int (by rfl)) da_nil)))))))))
    (pss_cons (ps_if (dt_not (dt_val (de_callD Dloss hr (by decide) (by rfl) (da_cons (de_var (pv 1)) (da_cons (de_callD Dlocks hr (by decide) (by rfl) (da_cons (de_callD Dbar hr (by decide) (by rfl) (da_cons (de_var (pv 1)) da_nil)) da_nil))
        (da_cons (de_callTy cd_tuple (by rfl) B.tuple_ rfl (da_cons (de_var (pv 3)) da_nil)) (da_cons (de_callTy cd_tuple (by rfl) B.tuple_ rfl (da_cons (de_var (pv 4)) da_nil)) da_nil))))))) (pss_one (ps_ret pe_bl)) pss_nil)
    (pss_cons (ps_set (i := 7) nd rfl (by first | exact .inl rfl | exact .inr rfl) (du_callTy (P := fun ρ => pVs ρ ∧ pTrue ρ) (R := rFolk) cd_tuple (by rfl) B.tuple_ rfl (dua_cons (du_lc (s := 5) (N := 4) (n1 := 1) (P := pVs) (P2 := fun ρ => pTrue ρ ∧ pTrue ρ) (R := fun _ d => d ∈ folk4.map PyData.str) (R2 := fun ρ d => ∃ K F hs, ρ[1]? = some (some (vD K F)) ∧ d = lS hs ∧ hs.length = K.length) (own := [("_law_tag", 5)]) rfl nd (di_seq (de_ix (de_var (pv 1)) de_int (fun _ _ => rfl))) (blkOk_by (by kernel_rfl))
        (fun _ _ _ _ _ => pg_name (i := 5) nd rfl (by first | exact .inl rfl | exact .inr rfl))
        (fun _ _ _ _ _ => du_w (du_callU Do hr (by decide) (by rfl) (pv 0) (dua_cons (du_de (P := pTrue) (R := fun _ d => d = lS folk4) (de_lst (da_cons de_str (da_cons de_str (da_cons de_str (da_cons de_str da_nil))))) fun ρ _ => ⟨_, iLst (iCons rfl (iCons rfl (iCons rfl (i1 rfl)))) (by decide), rfl⟩) dua_nil)
          (fun ρ ds _ ⟨d, es, r1, r2, r3⟩ => by
            have r1' : d = lS folk4 := r1
            have r2' : es = [] := r2
            subst r1'; subst r2'; subst r3
            exact ⟨rfl, _, _, rfl, rfl, by decide, by decide⟩)) (Nat.le_refl _) fun ρ p => ⟨p, fun z ⟨ds, ⟨d, es, r1, r2, r3⟩, d', xs, e1, e2, e3⟩ => by
            have r1' : d = lS folk4 := r1
            have r2' : es = [] := r2
            subst r1'; subst r2'; subst r3
            injection e1 with e1
            subst e1
            cases e2
            exact e3⟩)
        (fun x => List.mem_singleton) (by decide)
        (fun ρ ⟨K, F, K2, F2, h1, h2, V⟩ => ⟨K.map PyData.str, ⟨dS K, vD_fst K F h1, rfl⟩, by rw [List.length_map]; exact V.v.len, by rw [List.length_map]; have := V.v.len; omega, fun _ _ => ⟨trivial, trivial⟩, fun ys hl hy => by
          obtain ⟨hs, e⟩ := strs_of (xs := folk4) fun y h => by obtain ⟨_, _, z⟩ := hy y h; exact z
          subst e
          exact ⟨K, F, hs, h1, rfl, by rw [List.length_map, List.length_map] at hl; exact hl⟩⟩)) dua_nil)
        (fun ρ ds _ ⟨d, es, ⟨K, F, hs, h1, r1, hl⟩, r2, r3⟩ => by
            have r2' : es = [] := r2
            subst r1; subst r2'; subst r3
            exact ⟨_, iTuple (isS_lS hs), K, F, hs, h1, rfl, hl⟩)))
    (pss_cons (ps_if (PW.pt (pw_or (dt_not (dt_val (de_callD Dpeople hr (by decide) (by rfl) (da_cons (de_var (pv 1)) (da_cons (de_var (pv 7)) da_nil))))) (pw_or1 (pt_not (pt_val (du_callD (P := fun ρ => pVs ρ ∧ ((pVs ρ ∧ pTrue ρ) ∧ (pVs ρ ∧ pTrue ρ))) (R := fun _ d => d = .bool true) Dhouse hr (by decide) (by rfl)
        (dua_cons (du_de (P := pVs) (R := fun ρ d => ρ[1]? = some (some d)) (de_var (pv 1)) fun ρ ⟨K, F, K2, F2, h1, h2, V⟩ => ⟨_, h1, h1⟩)
        (dua_cons (du_w (n' := 1) (P' := fun ρ => pVs ρ ∧ pTrue ρ) (R' := rTag) (du_callU Do hr (by decide) (by rfl) (pv 0) (dua_cons (du_de (P := pVs) (R := fun ρ d => ∃ K F, ρ[1]? = some (some (vD K F)) ∧ d = dS K ∧ 0 < K.length ∧ K.length ≤ 4) (de_ix (de_var (pv 1)) de_int (fun _ _ => rfl)) fun ρ ⟨K, F, K2, F2, h1, h2, V⟩ => ⟨dS K, vD_fst K F h1, K, F, h1, rfl, V.t.pos, V.v.len⟩) dua_nil)
          (fun ρ ds _ ⟨d, es, ⟨K, F, h1, r1, k0, k4⟩, r2, r3⟩ => by
            have r2' : es = [] := r2
            subst r1; subst r2'; subst r3
            exact ⟨rfl, _, _, rfl, isS_dS K, by rw [List.length_map]; exact k0, by rw [List.length_map]; omega⟩)) (Nat.le_refl _) fun ρ p => ⟨p, fun z ⟨ds, ⟨d, es, ⟨K, F, h1, r1, _⟩, r2, r3⟩, d', xs, e1, e2, e3⟩ => by
            have r2' : es = [] := r2
            subst r1; subst r2'; subst r3
            injection e1 with e1
            subst e1
            cases e2
            obtain ⟨x, hx, e4⟩ := List.mem_map.mp e3
            exact ⟨K, F, x, h1, e4.symm, hx⟩⟩)
        (dua_cons (du_de (P := pVs) (R := rIn2) (de_var (pv 2)) fun ρ ⟨K, F, K2, F2, h1, h2, V⟩ => ⟨_, h2, K, F, K2, F2, h1, rfl, V⟩) dua_nil)))
        (fun ρ ds _ ⟨d1, es1, r1, ⟨d2, es2, ⟨Ka, Fa, x, ha, r2, hx⟩, ⟨d3, es3, ⟨K, F, K2, F2, hb, r3, V⟩, r4, r5⟩, r6⟩, r7⟩ => by
          have r4' : es3 = [] := r4
          have ed : d1 = vD K F := slot_eq r1 hb
          have ek : Ka = K := vD_inj (slot_eq ha hb)
          subst ed; subst ek; subst r2; subst r3; subst r4'; subst r5; subst r6; subst r7
          exact ⟨rfl, _, ⟨Ka, F, x, K2, F2, rfl, V.house hx, rfl⟩, rfl⟩))))))) (pss_one (ps_ret pe_bl)) pss_nil)
    (pss_one (ps_ret (de_callD Dlots hr (by decide) (by rfl) (da_cons (de_var (pv 1)) da_nil))))))))), ?_⟩
  have S0 : SatU K T M U (fu + 200) H _ [none, none, none, none, none, none, none, none] := start_satU (N := ["_law_urn", "_law_vault_so", "_law_inner_so", "_law_gone_so", "_law_stays_so", "_law_tag", "_law_way_so", "_law_holders_so"]) tb mk' hu urn iw
  refine ⟨_, M, U, fu + 64, S0.less (by omega), ⟨trivial, trivial, trivial⟩, fun ds1 vs1 H1 r1 g1 u1 j00 => ?_⟩
  obtain ⟨da, es1, ⟨Kv, Fv, rfl, V4, t4⟩, ⟨db, es2, ⟨K2, F2, rfl, V3, t3⟩, r2, rfl⟩, rfl⟩ := r1
  have r2' : es2 = [] := r2
  subst r2'
  obtain ⟨v1, v2, rfl, j1, j2⟩ := isDs_two j00
  have V : Two Kv Fv K2 F2 := ⟨V4, t4, V3, t3⟩
  have S1 : SatU K T M U (fu + 64) H1 _ [none, some (vD Kv Fv), some (vD K2 F2), none, none, none, none, none] := ((S0.gu g1 u1).set (i := 1) (by decide) j1).set (i := 2) (by decide) j2
  refine ⟨v1, v2, rfl, ?_⟩
  refine ⟨_, [.list [], .list []], M, S1.s, i2 (iLst iNil (by decide)) (iLst iNil (by decide)), fun vs2 H2 g2 i2' => ?_⟩
  obtain ⟨v3, v4, rfl, j3, j4⟩ := isDs_two i2'
  have S2 : SatU K T M U (fu + 64) H2 _ [none, some (vD Kv Fv), some (vD K2 F2), some (lS []), some (lS []), none, none, none] := ((S1.gr g2).set (i := 3) (by decide) j3).set (i := 4) (by decide) j4
  refine ⟨v3, v4, rfl, ?_⟩
  -- the keys lost and left in
  refine ⟨_, Kv.map PyData.str, M, S2.s, ⟨dS Kv, vD_fst Kv Fv rfl, rfl⟩, fun J H3 g3 _ its => ?_⟩
  have hn4 : Kv.length ≤ 4 := V.v.len
  refine ⟨fun i m σ' H' => m = Kv.length - i ∧ i ≤ Kv.length ∧ GU U T H3 H' ∧ ∃ g s o5 o6, Gs Kv i g s ∧ SatU K T M U (fu + 64 - i) H' σ' [none, some (vD Kv Fv), some (vD K2 F2), some (lS g), some (lS s), o5, o6, none],
    ⟨_, rfl, Nat.zero_le _, GU.refl _ _ _, [], [], none, none, ⟨fun x hx => (by cases hx), fun x hx => (by cases hx), Nat.zero_le _⟩, S2.gr g3⟩, ?_⟩
  rintro i m σ' H' ⟨rfl, hi, gg, g, s', o5, o6, G, S3⟩
  obtain ⟨it1, it2⟩ := its H' M S3.s.msk (gg.le S3.mem)
  by_cases hlt : i < Kv.length
  · have hli : i < (Kv.map PyData.str).length := by rw [List.length_map]; exact hlt
    obtain ⟨go, yl⟩ := it1 i (.str Kv[i]) (by rw [List.getElem?_map, List.getElem?_eq_getElem hlt]; rfl)
    refine .inr ⟨go, fun σ' H' => GU U T H3 H' ∧ ∃ g s o5 o6, Gs Kv (i + 1) g s ∧ SatU K T M U (fu + 64 - (i + 1)) H' σ' [none, some (vD Kv Fv), some (vD K2 F2), some (lS g), some (lS s), o5, o6, none],
      fun σ' H' hN => ⟨_, by omega, rfl, hlt, hN⟩, fun x H4 y => ?_⟩
    obtain ⟨g4, ix⟩ := yl x H4 y
    have S4 : SatU K T M U (fu + 64 - i) H4 _ [none, some (vD Kv Fv), some (vD K2 F2), some (lS g), some (lS s'), some (.str Kv[i]), o6, none] := (S3.gr g4).set (i := 5) (by decide) ix
    refine ⟨_, M, U, fu + 64 - (i + 1), S4.less (by omega), trivial, fun d5 v5 H5 ⟨k, e5, k0, k4⟩ g5 u5 i5 => ?_⟩
    subst e5
    have S5 : SatU K T M U (fu + 64 - (i + 1)) H5 _ [none, some (vD Kv Fv), some (vD K2 F2), some (lS g), some (lS s'), some (.str Kv[i]), some (.int k), none] := (S4.gu g5 u5).set (i := 6) (by decide) i5
    have hgl := G.len
    have ev : ∀ (b : Bool), lS (if b then [Kv[i]] else []) = .list (if b then [.str Kv[i]] else []) := fun b => by cases b <;> rfl
    refine ⟨_, lS (g ++ if decide (k = 0) then [Kv[i]] else []), M, S5.s, iBin (d := lS g) (e := lS (if decide (k = 0) then [Kv[i]] else [])) rfl (iBin (d := .list [.str Kv[i]]) (e := .int (if decide (k = 0) then 1 else 0)) (iLst (i1 rfl) (show 1 ≤ 1000000 by decide)) (iCall (i1 (iBin (d := .int k) (e := .int 0) rfl rfl ⟨rfl, rfl, rfl⟩)) (.inl ⟨decide (k = 0), rfl, rfl⟩)) ⟨_, decide (k = 0), rfl, rfl, (show 1 ≤ 1000000 by decide), ev _⟩) ⟨_, _, rfl, rfl, ?_, ?_⟩, fun v6 H6 g6 i6 => ?_⟩
    · rw [List.length_map, List.length_map]; cases decide (k = 0) <;> simp <;> omega
    · unfold lS; rw [List.map_append]
    have S6 : SatU K T M U (fu + 64 - (i + 1)) H6 _ [none, some (vD Kv Fv), some (vD K2 F2), some (lS (g ++ if decide (k = 0) then [Kv[i]] else [])), some (lS s'), some (.str Kv[i]), some (.int k), none] := (S5.gr g6).set (i := 3) (by decide) i6
    refine ⟨_, lS (s' ++ if decide (k = 1) then [Kv[i]] else []), M, S6.s, iBin (d := lS s') (e := lS (if decide (k = 1) then [Kv[i]] else [])) rfl (iBin (d := .list [.str Kv[i]]) (e := .int (if decide (k = 1) then 1 else 0)) (iLst (i1 rfl) (show 1 ≤ 1000000 by decide)) (iCall (i1 (iBin (d := .int k) (e := .int 1) rfl rfl ⟨rfl, rfl, rfl⟩)) (.inl ⟨decide (k = 1), rfl, rfl⟩)) ⟨_, decide (k = 1), rfl, rfl, (show 1 ≤ 1000000 by decide), ev _⟩) ⟨_, _, rfl, rfl, ?_, ?_⟩, fun v7 H7 g7 i7 => ?_⟩
    · rw [List.length_map, List.length_map]; cases decide (k = 1) <;> simp <;> omega
    · unfold lS; rw [List.map_append]
    refine ⟨(((gg.trans (GU.gr g4)).trans g5).trans (GU.gr g6)).trans (GU.gr g7), _, _, _, _, G.step V.v.cn.1 hlt (decide (k = 0)) (decide (k = 1)) (by rw [decide_eq_true_eq, decide_eq_true_eq]; omega), (S6.gr g7).set (i := 4) (by decide) i7⟩
  have e : i = Kv.length := by omega
  subst e
  refine .inl ⟨by rw [List.length_map] at it2; exact it2, ?_⟩
  have hgl := G.len
  have gK : ∀ x ∈ g, x ∈ Kv := fun x hx => by have := G.gin x hx; rwa [List.take_length] at this
  have sK : ∀ x ∈ s', x ∈ Kv ∧ x ∉ g := fun x hx => by have := G.sin x hx; rwa [List.take_length] at this
  have hb6 := V.v.b6
  -- losses
  refine ⟨_, false, M, S3.s, ?_, fun H4 g4 => ?_⟩
  · show rOf _ _ (!false)
    refine iCallN (ds := [vD Kv Fv, hangD (locksP (barP Fv)), dS g, dS s']) (iCons rfl (iCons (iCallN (i1 (iCallN (i1 rfl) rfl ⟨Kv, Fv, rfl, V.v.bar, rfl⟩)) rfl ⟨_, barP Fv, rfl, isF_dF _, rfl⟩) (i2 (iCall (i1 rfl) (iTuple (isS_lS g))) (iCall (i1 rfl) (iTuple (isS_lS s')))))) rfl
      ⟨Kv, Fv, locksP (barP Fv), g, s', rfl, lossOk4 V.v (locksP_snd (by omega)) gK sK (by omega), rfl⟩
  refine iteF ?_
  have S4 := S3.gr g4
  have hpV : pVs [none, some (vD Kv Fv), some (vD K2 F2), some (lS g), some (lS s'), o5, o6, none] := ⟨Kv, Fv, K2, F2, rfl, rfl, V⟩
  refine ⟨_, M, U, fu + 1, S4.less (by omega), ⟨hpV, trivial⟩, fun d5 v5 H5 ⟨Kx, Fx, hs, ex, e5, hsl⟩ g5 u5 i5 => ?_⟩
  have ek : Kv = Kx := vD_inj (Option.some.inj (Option.some.inj (show (some (some (vD Kv Fv)) : Option (Option PyData)) = some (some (vD Kx Fx)) from ex)))
  subst ek; subst e5
  have S5 : SatU K T M U (fu + 1) H5 _ [none, some (vD Kv Fv), some (vD K2 F2), some (lS g), some (lS s'), o5, o6, some (dS hs)] := (S4.gu g5 u5).set (i := 7) (by decide) i5
  -- people, house
  refine ⟨_, false, M, S5.s, ?_, fun H6 g6 => ?_⟩
  · show rOf _ _ (!false)
    exact iCallN (ds := [vD Kv Fv, dS hs]) (i2 rfl rfl) rfl ⟨Kv, Fv, hs, rfl, peopleOk4 V.v hsl, rfl⟩
  refine iteF ?_
  have hpV2 : pVs [none, some (vD Kv Fv), some (vD K2 F2), some (lS g), some (lS s'), o5, o6, some (dS hs)] := ⟨Kv, Fv, K2, F2, rfl, rfl, V⟩
  refine ⟨_, M, U, fu, (S5.gr g6).less (by omega), ⟨hpV2, ⟨hpV2, trivial⟩, hpV2, trivial⟩, fun d7 v7 H7 e7 g7 u7 i7 => ?_⟩
  have e7' : d7 = .bool true := e7
  subst e7'
  cases i7
  refine ⟨true, rfl, iteF ?_⟩
  have S7 := (S5.gr g6).gu g7 u7
  refine ⟨_, .bool true, M, S7.s, iCallN (ds := [vD Kv Fv]) (i1 rfl) rfl ⟨Kv, Fv, rfl, lotsOk4 V.v, rfl⟩, fun v8 H8 g8 i8 => ?_⟩
  exact q _ v8 H8 ⟨rfl, rfl⟩ (((((((g1.trans (GU.gr g2)).trans (GU.gr g3)).trans gg).trans (GU.gr g4)).trans g5).trans (GU.gr g6)).trans (g7.trans (GU.gr g8))) (u7.gr g8) i8
theorem ok_right (X : Txs K mg c) (Y : Tb T base mg c Pt) : PU P w K mg base T "_law_right" 17 0 200 preRight phRight := by
  obtain ⟨f, fd, hm, F⟩ := X.t__law_right
  exact ⟨f, fd, _, hm, F.kp, F.binds bd__law_right, rfl, ok_right_fn F X.bl (ok_take X) (ok_of X) (ok_vault X) (ok__law_loss_right X Y) (ok__law_locks X) (ok_barriers X Y) (ok__law_people_right X Y) (ok__law_house_right X Y) (ok__law_lots_right X Y)⟩
end
end Vk

/-! ## VkMain -/
set_option Elab.async false
set_option linter.all false
set_option maxRecDepth 100000
set_option maxHeartbeats 2000000
/-! _law_box, _law_cells, law. -/
namespace Vk
open PySem PySem.Spec PyProof.Rows L2 LamX StX
/-! ### _law_box -/
def spBox : Sp := fun vs H Q _ => ∃ (a : Addr) (z : Int), vs = [.ref a, .int 0] ∧ H a = some (.lst [.int z]) ∧ ∀ (p : Addr) (n m : Int), H p = none → 0 ≤ m → m < 4611686018427387904 → Q (.ref p) (upd H p (.lst [.int n, .int m, .int 0]))
theorem sc__law_box : FnScope ["_law_script", "_law_k", "_law_cell"] ["_law_script", "_law_k"] (defScope s_law_box) := ⟨rfl, rfl, rfl, by decide +kernel, rfl, by decide +kernel, by decide +kernel⟩
theorem bd__law_box : BindsSt s_law_box "_law_box" ["_law_script", "_law_k"] := fun _ _ _ _ _ _ us hl => match us, hl with | [_, _], _ => rfl
/-! ### _law_cells -/
def spCells (K : PySem.W.Frag) : Sp := fun vs H Q _ => ∃ (a : Addr) (ns : List Int), vs = [.ref a, .int 1] ∧ SqL K H a (ns.map V.int) ∧ ns.length ≤ 63 ∧ ∀ (p : Addr) (z : Int) (H' : Hp), H p = none → (∀ b o, H b = some o → H' b = some o) → H' p = some (.lst [.int z]) → Q (.ref p) H'
theorem sc__law_cells : FnScope ["_law_script", "_law_top", "_law_cells_here", "_law_k", "_law_cell", "_law_at_so"] ["_law_script", "_law_top"] (defScope s_law_cells) := ⟨rfl, rfl, rfl, by decide +kernel, rfl, by decide +kernel, by decide +kernel⟩
theorem bd__law_cells : BindsSt s_law_cells "_law_cells" ["_law_script", "_law_top"] := fun _ _ _ _ _ _ us hl => match us, hl with | [_, _], _ => rfl
theorem cut_ints (ns : List Int) (lo hi : Option Int) : ∃ ms : List Int, cutV (ns.map V.int) lo hi = ms.map V.int ∧ ms.length ≤ ns.length := by
  unfold cutV
  rw [← List.map_drop, ← List.map_take]
  exact ⟨_, rfl, by rw [List.length_take, List.length_drop]; omega⟩
theorem cut_first : ∀ ns : List Int, cutV (ns.map V.int) none (some 1) = (ns.take 1).map V.int := fun ns => by
  unfold cutV
  rw [HT.sIx_none, show (some (1 : Int)) = some ((1 : Nat) : Int) from rfl, HT.sIx_nat, List.drop_zero, Nat.sub_zero, List.length_map, ← List.map_take]
  by_cases h : 1 ≤ ns.length
  · rw [Nat.min_eq_left h]
  · have : ns = [] := List.eq_nil_of_length_eq_zero (by omega)
    rw [this]; rfl
theorem sqL_of {K : PySem.W.Frag} {H H' : Hp} {a : Addr} {xs : List V} (h : SqL K H a xs) (e : ∀ b o, H b = some o → H' b = some o) : SqL K H' a xs :=
  h.elim (fun h => .inl (h.elim (fun h => .inl (e _ _ h)) fun ⟨o, h⟩ => .inr ⟨o, e _ _ h⟩)) fun h => .inr h
section
variable {P : Program} {w : World} {K : PySem.W.Frag} {mg : Str → Option Value} {base : Heap} {T : TabL} {c Pt : Addr}
theorem ok_box_fn {f : Addr} {fd : FuncData} (F : Fun K "_law_box" "_law_box" s_law_box f fd) (B : Bl mg) : FnOk P w K mg base CX0 1 f fd ["_law_script", "_law_k"] spBox := by
  refine F.ok sc__law_box (fun vs H Q E h => ?_) (fun cdv A outer s H vs Q E hr h => ?_)
  · obtain ⟨a, z, rfl, _⟩ := h
    rfl
  have nd := sc__law_box.nd
  obtain ⟨a, z, rfl, ha, q⟩ := h
  refine ⟨_, pss_cons (ps_set (i := 2) nd rfl (by first | exact .inl rfl | exact .inr rfl) (pe_ifExp (pt_cmpR op_lt (pv 1) (pe_callB call_len_seq (by rfl) B.len_ rfl (pa_cons (pv 0) pa_nil)) (by rfl)) (pe_ix ix_seq (pv 0) (pv 1) (fun _ _ => rfl)) pe_int))
    (pss_one (ps_ret (pe_lst (pa_cons (pe_op op_mul (pe_callB call_abs (by rfl) B.abs_ rfl (pa_cons (pv 2) pa_nil)) (pe_callTy call_int1 (by rfl) B.int_ rfl (pa_cons (pe_cmpR op_ge (pe_callB call_abs (by rfl) B.abs_ rfl (pa_cons (pv 2) pa_nil)) (pe_op op_pow pe_int pe_int) (by rfl)) pa_nil)))
      (pa_cons (pe_op op_add (pe_op op_add (pe_op op_mod (pe_callTy call_int1 (by rfl) B.int_ rfl (pa_cons (pv 2) pa_nil)) pe_int) (pe_op op_mul pe_int (pv 1))) pe_int) (pa_cons pe_int pa_nil)))))), ?_⟩
  refine ⟨.int 0, rfl, .ref a, rfl, a, [.int z], rfl, .inl (SqL.of ha), 0, 1, rfl, rfl, _, rfl, ?_⟩
  refine iteT ?_
  refine ⟨.ref a, rfl, .int 0, rfl, ixU ha rfl ?_⟩
  refine ⟨.int z, rfl, z, rfl, .int z, rfl, z, rfl, 10, 18, rfl, rfl, ⟨by omega, by omega, by decide⟩, _, _, rfl, rfl, .inr ⟨_, rfl, _, _, rfl, rfl, .inr ?_, ?_⟩⟩
  · split <;> omega
  refine ⟨.int z, rfl, .inl ⟨z, rfl, z, 2305843009213693951, rfl, rfl, by omega, .int 0, rfl, 39373, 0, rfl, rfl, .inl ⟨by omega, by omega⟩, _, _, rfl, rfl, _, _, rfl, rfl, ?_⟩⟩
  refine ⟨by rw [sizeLine_eq]; show 3 ≤ 16777216; decide, fun p hp => q p _ _ hp ?_ ?_⟩
  · have := Int.emod_nonneg z (show (2305843009213693951 : Int) ≠ 0 by decide)
    omega
  · have := Int.emod_lt_of_pos z (show (0 : Int) < 2305843009213693951 by decide)
    omega
def tFirst (K : PySem.W.Frag) : TE := fun σ H Q => ∃ (a : Addr) (ns : List Int), σ[0]? = some (some (.ref a)) ∧ σ[1]? = some (some (.int 1)) ∧ SqL K H a (ns.map V.int) ∧
  ∀ (p : Addr) (z : Int) (H2 : Hp), H p = none → (∀ b o, H b = some o → H2 b = some o) → H2 p = some (.lst [.int z]) → Q (.ref p) H2
theorem first_run {σ : L2.St} {H : Hp} {Q : VK} (h : tFirst K σ H Q) : tOrT K (tCB (fun xs H Q => ∃ p ys, xs = [.ref p] ∧ (SqL K H p ys ∨ SqT K H p ys) ∧ ∀ l, H l = none → Q (.ref l) (upd H l (.lst ys))) (tCons (tSl (rSlL K) (tVar 0) tNoPart (tPart (tVar 1))) tNil)) (tLst (tCons (tC (.int 0)) tNil)) σ H Q := by
  obtain ⟨a, ns, h0, h1, ha, q⟩ := h
  refine ⟨.ref a, h0, .int 1, h1, 1, rfl, a, _, rfl, ha, fun p1 hp1 => ?_⟩
  refine ⟨p1, _, rfl, .inl (SqL.of upd_same), fun p2 hp2 => ?_⟩
  have h21 : p2 ≠ p1 := fun e => by rw [e, upd_same] at hp2; cases hp2
  have hp2' : H p2 = none := by rw [upd_ne h21] at hp2; exact hp2
  have ext2 : ∀ b o, H b = some o → (upd (upd H p1 (.lst (cutV (ns.map V.int) none (some 1)))) p2 (.lst (cutV (ns.map V.int) none (some 1)))) b = some o := fun b o hb => by
    rw [upd_ne (ne_of_none hb hp2'), upd_ne (ne_of_none hb hp1)]; exact hb
  refine ⟨_, .inl ⟨_, SqL.of upd_same, rfl⟩, ?_⟩
  cases ns with
  | nil =>
    refine iteF ?_
    refine ⟨by rw [sizeLine_eq]; decide, fun p3 hp3 => q p3 0 _ ?_ (fun b o hb => ?_) upd_same⟩
    · cases e : H p3 with
      | none => rfl
      | some o => rw [ext2 _ _ e] at hp3; cases hp3
    · rw [upd_ne (ne_of_none (ext2 _ _ hb) hp3)]; exact ext2 _ _ hb
  | cons n ns =>
    rw [cut_first] at ext2 ⊢
    refine iteT ?_
    exact q p2 n _ hp2' ext2 upd_same
theorem ok_cells_fn {f : Addr} {fd : FuncData} (F : Fun K "_law_cells" "_law_cells" s_law_cells f fd) (B : Bl mg) : FnOk P w K mg base CX0 1 f fd ["_law_script", "_law_top"] (spCells K) := by
  refine F.ok sc__law_cells (fun vs H Q E h => ?_) (fun cdv A outer s H vs Q E hr h => ?_)
  · obtain ⟨a, ns, rfl, _⟩ := h
    rfl
  have nd := sc__law_cells.nd
  obtain ⟨a, ns, rfl, ha, hn, q⟩ := h
  refine ⟨_, pss_cons (ps_set (i := 2) (te := tFirst K) nd rfl (by first | exact .inl rfl | exact .inr rfl) (pe_weak (pe_orT (pe_callTy call_list_of (by rfl) B.list_ rfl (pa_cons (pe_slice sl_list (pv 0) po_none (po_some (pv 1))) pa_nil)) (pe_one (pe_lst (pa_cons pe_int pa_nil)))) fun σ H Q h => first_run h))
    (pss_cons (ps_for PassesOwn.never rfl (pi_enum (by rfl) B.enumerate_ (pa_cons (pe_slice sl_list (pv 0) (po_some (pv 1)) (po_some pe_int)) pa_nil)) (pg_tup rfl (pgs_cons (pg_name (i := 3) nd rfl (by first | exact .inl rfl | exact .inr rfl)) (pgs_cons (pg_name (i := 4) nd rfl (by first | exact .inl rfl | exact .inr rfl)) pgs_nil)))
      (pss_cons (ps_set (i := 5) nd rfl (by first | exact .inl rfl | exact .inr rfl) (pe_op op_mod (pe_callTy call_int1 (by rfl) B.int_ rfl (pa_cons (pv 3) pa_nil)) (pv 1)))
        (pss_one (ps_asg (pe_op op_add (pe_ix ix_seq (pv 2) (pv 5) (fun _ _ => rfl)) (pe_op op_mul (pv 4) (pe_op op_add (pv 3) pe_int))) (pg_sub (pv 2) (pv 5) set_list)))))
    (pss_one (ps_ret (pv 2)))), ?_⟩
  refine ⟨a, ns, rfl, rfl, ha, fun p z H2 hp ext hz => ?_⟩
  obtain ⟨ms, hms, hml⟩ := cut_ints ns (some 1) (some 63)
  refine ⟨.ref a, rfl, .int 1, rfl, 1, rfl, 63, rfl, a, _, rfl, sqL_of ha ext, fun r hr2 => ?_⟩
  rw [hms]
  have hrp : p ≠ r := fun e => by rw [e, hr2] at hz; cases hz
  have hr0 : H r = none := by
    cases e : H r with
    | none => rfl
    | some o => rw [ext _ _ e] at hr2; cases hr2
  refine ⟨r, _, rfl, SqL.of upd_same, ?_⟩
  refine ⟨fun i m σ' H' => m = ms.length - i ∧ i ≤ ms.length ∧ ∃ (y : Int) (v3 v4 v5 : Option V), σ' = [some (.ref a), some (.int 1), some (.ref p), v3, v4, v5] ∧ H' p = some (.lst [.int y]) ∧ H' r = some (.lst (ms.map V.int)) ∧ ∀ b o, H b = some o → H' b = some o,
    ⟨_, rfl, Nat.zero_le _, z, none, none, none, rfl, by rw [upd_ne hrp]; exact hz, upd_same, fun b o hb => by rw [upd_ne (ne_of_none hb hr0)]; exact ext _ _ hb⟩, ?_⟩
  rintro i m σ' H' ⟨rfl, hi, y, v3, v4, v5, rfl, hy, hr', ext'⟩
  by_cases hlt : i < ms.length
  · have hget : (ms.map V.int)[i]? = some (.int ms[i]) := by rw [List.getElem?_map, List.getElem?_eq_getElem hlt]; rfl
    refine .inr ⟨⟨_, _, SqL.of hr', hget⟩, fun σ'' H'' => i + 1 ≤ ms.length ∧ ∃ (y : Int) (v3 v4 v5 : Option V), σ'' = [some (.ref a), some (.int 1), some (.ref p), v3, v4, v5] ∧ H'' p = some (.lst [.int y]) ∧ H'' r = some (.lst (ms.map V.int)) ∧ ∀ b o, H b = some o → H'' b = some o,
      fun σ'' H'' hN => ⟨ms.length - (i + 1), by omega, rfl, hN⟩, ?_⟩
    rintro x H3 ⟨t, x0, rfl, ht, rfl, hx⟩
    have ex : x0 = .int ms[i] := by
      have := hx _ (SqL.of hr')
      rw [hget] at this
      exact (Option.some.inj this).symm
    subst ex
    have hpt : p ≠ t := fun e => by rw [e, ht] at hy; cases hy
    have hrt : r ≠ t := fun e => by rw [e, ht] at hr'; cases hr'
    have hy3 : (upd H' t (.tup [.int (i : Nat), .int ms[i]])) p = some (.lst [.int y]) := by rw [upd_ne hpt]; exact hy
    have e0 : ((i : Nat) : Int) % 1 = 0 := Int.emod_one _
    refine ⟨t, _, rfl, SqT.of upd_same, rfl, _, _, rfl, _, _, rfl, rfl, ?_⟩
    refine ⟨.int (i : Nat), rfl, .inl ⟨_, rfl, .int 1, rfl, _, _, rfl, rfl, by omega, ?_⟩⟩
    refine ⟨.ref p, rfl, .int ((i : Nat) % 1 : Int), rfl, ixU hy3 (by rw [e0]; rfl) ⟨.int ms[i], rfl, .int (i : Nat), rfl, _, _, rfl, rfl, _, _, rfl, rfl, .inr ⟨by omega, by omega⟩, _, _, rfl, rfl, ?_⟩⟩
    refine ⟨.ref p, rfl, .int ((i : Nat) % 1 : Int), rfl, p, _, _, 0, rfl, rfl, hy3, by rw [e0]; rfl, by omega, _, _, _, _, rfl, upd_same, ?_, fun b o hb => ?_⟩
    · rw [upd_ne (fun e => hrp e.symm), upd_ne hrt]; exact hr'
    · rw [upd_ne (ne_of_none hb hp), upd_ne (ne_of_none (ext' _ _ hb) ht)]; exact ext' _ _ hb
  · refine .inl ⟨⟨_, SqL.of hr', by rw [List.length_map]; omega⟩, ?_⟩
    exact ⟨.ref p, rfl, q p y H' hp ext' hy⟩
/-! ### law -/
def spLaw (K : PySem.W.Frag) (T : TabL) : Sp := fun vs H Q _ => ∃ (a : Addr) (ns : List Int), vs = [.ref a] ∧ Tabs T H ∧ SqL K H a (ns.map V.int) ∧ ns.length ≤ 63 ∧ ∀ H', Q (.bl true) H'
theorem sc_law : FnScope ["_law_script", "_law_cells_so", "_law_k"] ["_law_script"] (defScope s_law) := ⟨rfl, rfl, rfl, by decide +kernel, rfl, by decide +kernel, by decide +kernel⟩
theorem bd_law : BindsSt s_law "law" ["_law_script"] := fun _ _ _ _ _ _ us hl => match us, hl with | [_], _ => rfl
theorem sqL_gr {H H' : Hp} {a : Addr} {xs : List V} (h : SqL K H a xs) (g : Gr T H H') : SqL K H' a xs :=
  h.elim (fun h => .inl (h.elim (fun h => .inl (g.1 _ _ h fun ps z => by cases z)) fun ⟨o, h⟩ => .inr ⟨o, g.1 _ _ h fun ps z => by cases z⟩)) fun h => .inr h
theorem ok_law_fn {f : Addr} {fd : FuncData} (F : Fun K "law" "law" s_law f fd) (B : Bl mg) (Dh : PDef P w K mg base T "_law_by_hand_right" 17 0 ph_by_hand)
    {fc : Addr} {fdc : FuncData} (Fc : Fun K "_law_cells" "_law_cells" s_law_cells fc fdc) (hmc : mg "_law_cells" = some (.ref fc))
    {fb : Addr} {fdb : FuncData} (Fb : Fun K "_law_box" "_law_box" s_law_box fb fdb) (hmb : mg "_law_box" = some (.ref fb))
    (Dr : PU P w K mg base T "_law_right" 17 0 200 preRight phRight) : FnOk P w K mg base CX0 18 f fd ["_law_script"] (spLaw K T) := by
  obtain ⟨fr, fdr, psr, hmr, hkr, hbr, hnr, FR⟩ := Dr.ex
  have FC := ok_cells_fn (P := P) (w := w) (base := base) Fc B
  have FB := ok_box_fn (P := P) (w := w) (base := base) Fb B
  refine F.ok sc_law (fun vs H Q E h => ?_) (fun cdv A outer s H vs Q E hr h => ?_)
  · obtain ⟨a, ns, rfl, _⟩ := h
    rfl
  have nd := sc_law.nd
  obtain ⟨a, ns, rfl, tb, ha, hn, q⟩ := h
  refine ⟨_, pss_cons (ps_if (pt_not (pt_val (de_call0 Dh hr (Nat.le_refl _) (by rfl)))) (pss_one (ps_ret pe_bl)) pss_nil)
    (pss_cons (ps_set (i := 1) nd rfl (by first | exact .inl rfl | exact .inr rfl) (pe_call (E := E0) FC (hr.mono (by decide)) (by rfl) hmc Fc.kp (Fc.binds bd__law_cells) .nil pass0 (pa_cons (pv 0) (pa_cons pe_int pa_nil))))
    (pss_one (ps_ret (pe_callB (cr_all rfl) (by rfl) B.all_ rfl (pa_cons (pe_lc (own := [("_law_k", 2)]) (g := gName 2) (tt := tYes) rfl nd (pi_range1 (by rfl) B.range_ (pa_cons (pe_callB call_len_seq (by rfl) B.len_ rfl (pa_cons (pv 1) pa_nil)) pa_nil)) (blkOk_by (by kernel_rfl))
        (fun _ _ _ _ _ => pg_name (i := 2) nd rfl (by first | exact .inl rfl | exact .inr rfl)) (fun _ _ _ _ _ => pts_nil)
        (fun _ _ _ _ _ => pe_call (E := E0) FR hr (by rfl) hmr hkr hbr .nil pass0 (pa_cons (pe_call (E := E0) FB (hr.mono (by decide)) (by rfl) hmb Fb.kp (Fb.binds bd__law_box) .nil pass0 (pa_cons (pv 1) (pa_cons (pv 2) pa_nil))) pa_nil))) pa_nil))))), ?_⟩
  have S0 : Sat K T [] H (L2.start ["_law_script", "_law_cells_so", "_law_k"] [.ref a]) [none, none, none] := ⟨tb, fun _ h => (by cases h), rfl, fun i d e => by
    match i, e with
    | 0, e => cases e
    | 1, e => cases e
    | 2, e => cases e
    | i + 3, e => cases e⟩
  refine ⟨[none, none, none], .bool true, [], S0, ⟨rfl, rfl⟩, fun v H1 g1 i1 => ?_⟩
  cases i1
  refine ⟨true, rfl, iteF ?_⟩
  refine ⟨.ref a, rfl, ?_⟩
  refine ⟨a, ns, rfl, sqL_gr ha g1, hn, fun p z H2 hp ext hz => ?_⟩
  have tb2 : Tabs T H2 := (g1.2 tb).ext ext
  refine ⟨.ref p, rfl, p, _, rfl, .inl (SqL.of hz), 1, rfl, by omega, by omega, fun D hD => ?_⟩
  have hDp : D ≠ p := fun e => by rw [e, hz] at hD; cases hD
  refine ⟨fun i m H3 => m = 1 - i ∧ i ≤ 1 ∧ Tabs T H3 ∧ H3 p = some (.lst [.int z]) ∧ H3 D = some (.lst (List.replicate i (.bl true))), ⟨1, rfl, by omega, tb2.ext (same_upd hD), by rw [upd_ne (Ne.symm hDp)]; exact hz, upd_same⟩, ?_⟩
  rintro i m H3 ⟨rfl, hi, t3, hp3, hD3⟩
  by_cases h0 : i = 0
  · subst h0
    refine .inr ⟨by show 0 < 1; omega, fun H4 => Tabs T H4 ∧ H4 p = some (.lst [.int z]) ∧ H4 D = some (.lst [.bl true]), fun H4 ⟨t4, h4, d4⟩ => ⟨0, by omega, rfl, by omega, t4, h4, d4⟩, ?_⟩
    rintro x H4 ⟨e4, e5⟩
    subst e4; subst e5
    refine ⟨rfl, iteT (B := Tabs T H4 ∧ H4 p = some (.lst [.int z]) ∧ H4 D = some (.lst [.bl true])) ?_⟩
    refine ⟨.ref p, rfl, .int 0, rfl, ?_⟩
    refine ⟨p, z, rfl, hp3, fun U n m hU m0 m1 => ?_⟩
    have hUD : D ≠ U := fun e => by rw [← e, hD3] at hU; cases hU
    have hUp : p ≠ U := fun e => by rw [← e, hp3] at hU; cases hU
    refine ⟨rfl, U, [], [], [U], 0, rfl, t3.ext (same_upd hU), fun b hb => ?_, List.mem_cons_self, ⟨n, m, 0, upd_same, m0, m1, by omega, by omega⟩, .nil, rfl, fun d v H5 hd g5 u5 i5 => ?_⟩
    · rw [List.mem_singleton.mp hb]; exact ⟨_, upd_same, nt_lst⟩
    obtain ⟨_, rfl⟩ := hd
    cases i5
    have hD5 : H5 D = some (.lst []) := g5.1 _ _ (by rw [upd_ne hUD]; exact hD3) (fun ps z => by cases z) hUD
    have hp5 : H5 p = some (.lst [.int z]) := g5.1 _ _ (by rw [upd_ne hUp]; exact hp3) (fun ps z => by cases z) hUp
    refine ⟨[], hD5, by rw [sizeLine_eq]; decide, tabs_lst hD5 (g5.2 (t3.ext (same_upd hU))), by rw [upd_ne (Ne.symm hDp)]; exact hp5, upd_same⟩
  · have e1 : i = 1 := by omega
    subst e1
    exact .inl ⟨by show 1 ≤ 1; omega, D, [true], rfl, SqL.of hD3, q _⟩
theorem ok_law (X : Txs K mg c) (Y : Tb T base mg c Pt) : ∃ (f : Addr) (fd : FuncData), mg "law" = some (.ref f) ∧ Fun K "law" "law" s_law f fd ∧ FnOk P w K mg base CX0 18 f fd ["_law_script"] (spLaw K T) := by
  obtain ⟨f, fd, hm, F⟩ := X.t_law
  obtain ⟨fc, fdc, hmc, Fc⟩ := X.t__law_cells
  obtain ⟨fb, fdb, hmb, Fb⟩ := X.t__law_box
  exact ⟨f, fd, hm, F, ok_law_fn F X.bl (ok__law_by_hand_right X Y) Fc hmc Fb hmb (ok_right X Y)⟩
end
end Vk

/-! ## VkHd -/
set_option Elab.async false
set_option linter.all false
set_option maxRecDepth 100000
set_option maxHeartbeats 0
/-! The head: printed by gen_hd.py. -/
namespace Vk
open PySem PySem.Spec PyProof.Rows L2
def mkD (x : Str) (st : Stmt) : He.DefD := ⟨(x, none), x, x, defArgs st, defBody st, defScope st, [], []⟩
def fn0 : List He.DefD := [mkD "set_of" s_set_of, mkD "tupled" s_tupled, mkD "is_within" s_is_within, mkD "subsets" s_subsets, mkD "by_size" s_by_size, mkD "least_sets" s_least_sets, mkD "check_keys" s_check_keys, mkD "has_opener" s_has_opener, mkD "open_table" s_open_table, mkD "least_vault" s_least_vault, mkD "meets" s_meets, mkD "barriers_of" s_barriers_of, mkD "barriers" s_barriers, mkD "undoes" s_undoes, mkD "undone_vault" s_undone_vault, mkD "is_right" s_is_right]
def fa0 : List He.Fa := [.glo "set_of", .glo "tupled", .glo "is_within", .glo "subsets", .glo "by_size", .glo "least_sets", .glo "check_keys", .glo "has_opener", .glo "open_table", .glo "least_vault", .glo "meets", .glo "barriers_of", .glo "barriers", .glo "undoes", .glo "undone_vault", .glo "is_right"]
def fn1 : List He.DefD := [mkD "wrong_held" s_wrong_held, mkD "fewest_locks" s_fewest_locks, mkD "hung" s_hung, mkD "trimmed" s_trimmed, mkD "peoples_vault" s_peoples_vault, mkD "house" s_house, mkD "put_in" s_put_in, mkD "ways_of" s_ways_of, mkD "mattering" s_mattering, mkD "parts_by" s_parts_by, mkD "against" s_against, mkD "committees" s_committees, mkD "keys_without" s_keys_without, mkD "lost" s_lost, mkD "left_in" s_left_in, mkD "behind" s_behind]
def fa1 : List He.Fa := [.glo "wrong_held", .glo "fewest_locks", .glo "hung", .glo "trimmed", .glo "peoples_vault", .glo "house", .glo "put_in", .glo "ways_of", .glo "mattering", .glo "parts_by", .glo "against", .glo "committees", .glo "keys_without", .glo "lost", .glo "left_in", .glo "behind"]
def fn2 : List He.DefD := [mkD "_law_box" s_law_box, mkD "_law_take" s_law_take, mkD "_law_cells" s_law_cells, mkD "_law_of" s_law_of, mkD "_law_same" s_law_same, mkD "_law_pick" s_law_pick, mkD "_law_subs" s_law_subs, mkD "_law_inside" s_law_inside, mkD "_law_least" s_law_least, mkD "_law_vault" s_law_vault, mkD "_law_opens" s_law_opens, mkD "_law_three" s_law_three, mkD "_law_two" s_law_two, mkD "_law_six" s_law_six, mkD "_law_idle" s_law_idle, mkD "_law_locks" s_law_locks]
def fa2 : List He.Fa := [.glo "_law_box", .glo "_law_take", .glo "_law_cells", .glo "_law_of", .glo "_law_same", .glo "_law_pick", .glo "_law_subs", .glo "_law_inside", .glo "_law_least", .glo "_law_vault", .glo "_law_opens", .glo "_law_three", .glo "_law_two", .glo "_law_six", .glo "_law_idle", .glo "_law_locks"]
def fn3 : List He.DefD := [mkD "_law_kept" s_law_kept, mkD "_law_loss_right" s_law_loss_right, mkD "_law_house_right" s_law_house_right, mkD "_law_people_right" s_law_people_right, mkD "_law_lots_right" s_law_lots_right, mkD "_law_by_hand_right" s_law_by_hand_right, mkD "_law_right" s_law_right, mkD "law" s_law]
def fa3 : List He.Fa := [.glo "_law_kept", .glo "_law_loss_right", .glo "_law_house_right", .glo "_law_people_right", .glo "_law_lots_right", .glo "_law_by_hand_right", .glo "_law_right", .glo "law"]
def fn : List He.DefD := fn0 ++ fn1 ++ fn2 ++ fn3
def faB : List He.Fa := [.free "tuple", .free "sorted", .free "set", .free "isinstance", .free "list", .free "all", .free "any", .free "len", .free "dict", .free "zip", .free "int", .free "abs", .free "min", .free "range", .free "enumerate", .free "bool", .free "str"]
def fa : List He.Fa := fa0 ++ fa1 ++ fa2 ++ fa3 ++ faB
def tf : List He.Defn := [("by_size", none)]
def exK : PySem.W.Frag → Bool := fun _ => true
abbrev RW : PySem.W.OpenRow := PySem.W.OpenLaw.row PySem.Challenge.rw_vaultkeys_k92_whole_padlocks_behind_loss
abbrev hk : PySem.W.Hook := He.hookX 2 fa fn [] tf exK
def ob (s : PySem.W.SharedT) : He.AlX := He.obsX 2 fa fn [] tf exK (HandSHeadRun.getT s)
theorem ob_eq (s : PySem.W.SharedT) : ob s = hk.obs s.abs := He.obsX_eq (HandSHeadRun.getT_eq s)
def loose0 : List PySem.Str := ["set_of", "tupled", "is_within", "subsets", "by_size", "least_sets", "VaultError", "NoKey", "NoNumber", "Known", "check_keys", "has_opener", "open_table", "least_vault", "meets", "barriers_of"]
def loose1 : List PySem.Str := ["barriers", "undoes", "undone_vault", "is_right", "wrong_held", "fewest_locks", "hung", "trimmed", "peoples_vault", "house", "put_in", "ways_of", "mattering", "parts_by", "against", "committees"]
def loose2 : List PySem.Str := ["keys_without", "lost", "left_in", "behind", "_law_box", "_law_take", "_law_cells", "_law_of", "_law_same", "_law_pick", "_law_subs", "_law_inside", "_law_least", "_law_vault", "_law_opens", "_law_three"]
def loose3 : List PySem.Str := ["_law_two", "_law_six", "_law_idle", "_law_locks", "_law_kept", "_law_loss_right", "_law_house_right", "_law_people_right", "_law_lots_right", "_law_by_hand_right", "_law_right"]
def loose : List PySem.Str := loose0 ++ loose1 ++ loose2 ++ loose3
theorem run (w : World) : HandSHeadRun.RunEq RW (PySem.W.view RW.prog [68]) hk ob 20000 loose w := by
  intro os
  kernel_rfl
end Vk

/-! ## VkFin -/
set_option Elab.async false
set_option linter.all false
set_option maxRecDepth 100000
set_option maxHeartbeats 0
/-! The end: printed by gen_end.py. -/
namespace Vk
open PySem PySem.Spec PyProof.Rows L2 LamX StX
theorem fun_of {K : PySem.W.Frag} {x : Str} {st : Stmt} {f : Addr} {fd : FuncData} (F : FunD K x x (defArgs st) (defBody st) (defScope st) [] [] f fd) : Fun K x x st f fd := by
  obtain ⟨oc, od, dV, kV, doc, pm, an, cdv, ct, osl, e, lk, hcd, hD, hK⟩ := F.ex
  rcases hD with ⟨_, rfl⟩ | ⟨z, _⟩
  · exact ⟨⟨oc, od, kV, doc, pm, an, cdv, ct, osl, e, lk, hcd⟩, F.kp⟩
  · exact absurd rfl z
theorem code_of {K : PySem.W.Frag} {x : Str} {st : Stmt} {fd : FuncData} (F : FunD K x x (defArgs st) (defBody st) (defScope st) [] [] (He.fAd K (x, none)) fd) : fd.code = .ref (He.cT K (x, none)).1 := by
  obtain ⟨oc, od, dV, kV, doc, pm, an, cdv, ct, osl, e, lk, hcd, hD, hK⟩ := F.ex
  obtain ⟨c, hc⟩ := He.codeIn_ref hcd
  have e1 : fd.code = .ref c := by rw [e]; exact hc
  have e2 : He.codeOf K (x, none) = c := He.codeOf_eq lk e1
  rw [e1, ← e2]; rfl
section
variable {K : PySem.W.Frag} {h : Heap} {mg : Str → Option Value} {w : World}
theorem tx_of (X : K.In h) (G : h.Ns mainGlobals mg) (cc : He.SaysD fa fn K) (i : Nat) {x : Str} {st : Stmt} (hg : fa[i]? = some (.glo x)) (hd : fn[i]? = some (mkD x st)) : Tx K mg x st := by
  obtain ⟨fd, F⟩ := cc.def_ i (d := mkD x st) hd
  exact ⟨He.ga K x, fd, He.glo_ok X G (cc.fact i hg), fun_of F⟩
theorem free_of (X : K.In h) (G : h.Ns mainGlobals mg) (cc : He.SaysD fa fn K) (i : Nat) {x : Str} (hg : fa[i]? = some (.free x)) : mg x = none := He.free_ok X G (cc.fact i hg)
theorem bl_of (X : K.In h) (G : h.Ns mainGlobals mg) (cc : He.SaysD fa fn K) : Bl mg where
  tuple_ := free_of X G cc 56 rfl
  sorted_ := free_of X G cc 57 rfl
  set_ := free_of X G cc 58 rfl
  isinstance_ := free_of X G cc 59 rfl
  list_ := free_of X G cc 60 rfl
  all_ := free_of X G cc 61 rfl
  any_ := free_of X G cc 62 rfl
  len_ := free_of X G cc 63 rfl
  dict_ := free_of X G cc 64 rfl
  zip_ := free_of X G cc 65 rfl
  int_ := free_of X G cc 66 rfl
  abs_ := free_of X G cc 67 rfl
  min_ := free_of X G cc 68 rfl
  range_ := free_of X G cc 69 rfl
  enumerate_ := free_of X G cc 70 rfl
  bool_ := free_of X G cc 71 rfl
  str_ := free_of X G cc 72 rfl
theorem txs_of (X : K.In h) (G : h.Ns mainGlobals mg) (cc : He.SaysD fa fn K) : Txs K mg (He.cT K ("by_size", none)).1 where
  bl := bl_of X G cc
  t_set_of := tx_of X G cc 0 rfl rfl
  t_tupled := tx_of X G cc 1 rfl rfl
  t_is_within := tx_of X G cc 2 rfl rfl
  t_subsets := tx_of X G cc 3 rfl rfl
  t_by_size := by
    obtain ⟨fd, F⟩ := cc.def_ 4 (d := mkD "by_size" s_by_size) rfl
    exact ⟨_, fd, He.glo_ok X G (cc.fact 4 (f := .glo "by_size") rfl), fun_of (st := s_by_size) F, code_of (st := s_by_size) F⟩
  t_least_sets := tx_of X G cc 5 rfl rfl
  t_check_keys := tx_of X G cc 6 rfl rfl
  t_has_opener := tx_of X G cc 7 rfl rfl
  t_open_table := tx_of X G cc 8 rfl rfl
  t_least_vault := tx_of X G cc 9 rfl rfl
  t_meets := tx_of X G cc 10 rfl rfl
  t_barriers_of := tx_of X G cc 11 rfl rfl
  t_barriers := tx_of X G cc 12 rfl rfl
  t_undoes := tx_of X G cc 13 rfl rfl
  t_undone_vault := tx_of X G cc 14 rfl rfl
  t_is_right := tx_of X G cc 15 rfl rfl
  t_wrong_held := tx_of X G cc 16 rfl rfl
  t_fewest_locks := tx_of X G cc 17 rfl rfl
  t_hung := tx_of X G cc 18 rfl rfl
  t_trimmed := tx_of X G cc 19 rfl rfl
  t_peoples_vault := tx_of X G cc 20 rfl rfl
  t_house := tx_of X G cc 21 rfl rfl
  t_put_in := tx_of X G cc 22 rfl rfl
  t_ways_of := tx_of X G cc 23 rfl rfl
  t_mattering := tx_of X G cc 24 rfl rfl
  t_parts_by := tx_of X G cc 25 rfl rfl
  t_against := tx_of X G cc 26 rfl rfl
  t_committees := tx_of X G cc 27 rfl rfl
  t_keys_without := tx_of X G cc 28 rfl rfl
  t_lost := tx_of X G cc 29 rfl rfl
  t_left_in := tx_of X G cc 30 rfl rfl
  t_behind := tx_of X G cc 31 rfl rfl
  t__law_box := tx_of X G cc 32 rfl rfl
  t__law_take := tx_of X G cc 33 rfl rfl
  t__law_cells := tx_of X G cc 34 rfl rfl
  t__law_of := tx_of X G cc 35 rfl rfl
  t__law_same := tx_of X G cc 36 rfl rfl
  t__law_pick := tx_of X G cc 37 rfl rfl
  t__law_subs := tx_of X G cc 38 rfl rfl
  t__law_inside := tx_of X G cc 39 rfl rfl
  t__law_least := tx_of X G cc 40 rfl rfl
  t__law_vault := tx_of X G cc 41 rfl rfl
  t__law_opens := tx_of X G cc 42 rfl rfl
  t__law_three := tx_of X G cc 43 rfl rfl
  t__law_two := tx_of X G cc 44 rfl rfl
  t__law_six := tx_of X G cc 45 rfl rfl
  t__law_idle := tx_of X G cc 46 rfl rfl
  t__law_locks := tx_of X G cc 47 rfl rfl
  t__law_kept := tx_of X G cc 48 rfl rfl
  t__law_loss_right := tx_of X G cc 49 rfl rfl
  t__law_house_right := tx_of X G cc 50 rfl rfl
  t__law_people_right := tx_of X G cc 51 rfl rfl
  t__law_lots_right := tx_of X G cc 52 rfl rfl
  t__law_by_hand_right := tx_of X G cc 53 rfl rfl
  t__law_right := tx_of X G cc 54 rfl rfl
  t_law := tx_of X G cc 55 rfl rfl
theorem law_at {f : Addr} (X : K.In h) (G : h.Ns mainGlobals mg) (S : He.SaysX fa fn [] tf exK w h K) (hfa : mg ("law" : Str) = some (.ref f)) : LawAtS PySem.Challenge.rw_vaultkeys_k92_whole_padlocks_behind_loss w K CX0 18 63 "_law_script" mg f h := by
  have cc : He.SaysD fa fn K := congrArg (fun z : He.AlT => z.1) S.t
  have T := txs_of X G cc
  obtain ⟨fd, F⟩ := cc.def_ 55 (d := mkD "law" s_law) rfl
  have e := hfa.symm.trans (He.glo_ok X G (cc.fact 55 (f := .glo "law") rfl))
  have ef : f = He.ga K "law" := by injection e with e; injection e
  subst ef
  have b := FunD.bindsA (ps := ["_law_script"]) F fun _ _ _ _ _ _ us hl => match us, hl with | [_], _ => rfl
  obtain ⟨fc, fdc, hmc, Fc⟩ := T.t__law_cells
  obtain ⟨fb, fdb, hmb, Fb⟩ := T.t__law_box
  refine ⟨fd, [He.cT K ("by_size", none)], spLaw K [((He.cT K ("by_size", none)).2, qBy)], fun p hp => ?_, fun p hp => ?_, fun p hp => ?_, fun s u => b s [u] rfl, fun H a ns hl _ ht hS => ⟨a, ns, rfl, fun p hp => ?_, hS, hl, fun _ => rfl⟩, fun base hK hN hT => ?_⟩
  · rw [List.mem_singleton.mp hp]; exact S.empty _ List.mem_cons_self
  · rw [List.mem_singleton.mp hp]; exact S.out _ List.mem_cons_self
  · rw [List.mem_singleton.mp hp]; exact PySem.W.codeHd_of_K X (S.hd _ List.mem_cons_self)
  · rw [List.mem_singleton.mp hp]
    exact ⟨#[], ht _ List.mem_cons_self, by first | exact trivial | constructor | decide, fun pos cv hc => by cases hc⟩
  · have Y : Tb [((He.cT K ("by_size", none)).2, qBy)] base mg (He.cT K ("by_size", none)).1 (He.cT K ("by_size", none)).2 := ⟨List.mem_cons_self, fun p hp _ => by rw [List.mem_singleton.mp hp], hT _ List.mem_cons_self⟩
    exact ok_law_fn (fun_of F) T.bl (ok__law_by_hand_right T Y) Fc hmc Fb hmb (ok_right T Y)
end
end Vk
open PySem PySem.W PySem.Calls PyProof.Rows
theorem PySem.Challenge.cw_vaultkeys_k92_whole_padlocks_behind_loss_holds : PySem.Challenge.rw_vaultkeys_k92_whole_padlocks_behind_loss.Holds := by
  w_on; o_law
  refine HandSHeadRun.head_any (r := OpenLaw.row PySem.Challenge.rw_vaultkeys_k92_whole_padlocks_behind_loss) (q := view (OpenLaw.row PySem.Challenge.rw_vaultkeys_k92_whole_padlocks_behind_loss).prog [68]) (H := Vk.hk) (ob := Vk.ob) (M := 20000) (loose := Vk.loose) (d := HandSHeadRun.topDef (OpenLaw.row PySem.Challenge.rw_vaultkeys_k92_whole_padlocks_behind_loss).prog 68) (kwd := []) Vk.ob_eq
    (by kernel_rfl) (fun s => by kernel_rfl) Vk.run (by kernel_rfl) (by kernel_rfl) (by kernel_rfl) (by rfl) (by first | assumption | decide +kernel) (by decide +kernel) ⟨rfl, rfl, rfl, rfl, rfl, by decide +kernel⟩ ?hw ?hc
  case hw => w_witness2
  case hc =>
    refine LamX.walk_ofTsE (l := PySem.Challenge.rw_vaultkeys_k92_whole_padlocks_behind_loss) (n := 63) (k := 18) (x := "_law_script") (CX := fun _ => L2.CX0) rfl (by decide) (by kernel_rfl) ⟨rfl, by decide, by decide⟩ ?F (fun _ _ _ _ _ z => z)
    intro w mg fa h Y G hmg0
    obtain ⟨K, KX, S⟩ := Y
    have hmg : mg ("law" : PySem.Str) = some (.ref fa) := by
      have e : (HandSHeadRun.topDef (OpenLaw.row PySem.Challenge.rw_vaultkeys_k92_whole_padlocks_behind_loss).prog 68).name = ("law" : PySem.Str) := by kernel_rfl
      rw [← e]
      exact hmg0
    exact ⟨K, KX, Vk.law_at KX G S hmg⟩

