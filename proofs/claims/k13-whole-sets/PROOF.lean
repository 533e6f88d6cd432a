import PyProof.Rows.All
import Wide.All
import OpenK.AllK
import Wide.FinOn
import HandS.ForMost
import HandS.Wide
import HandS.Strs
import HandS.Style
import HandS.DictComp
import HandS.Walk
import HandS.SetFor
import HandS.EndBits
import PyProof.ReprRoads
import PySem.Challenge.RW_ladderdays_k13_whole_sets_by_ladders
import KE.KStateDown
import HandS.Base
import HandS.Call
import HandS.Ends
import HandS.More
import HandS.Words
import HandS.Defaults
import HandS.Head0
import HandS.Head1
import HandS.Head2
import HandS.HeadEnd
import HandS.HeadHook1
import HandS.HeadHook2
set_option Elab.async false
set_option linter.all false
set_option maxRecDepth 100000
set_option maxHeartbeats 4000000
/-! Dat1: expressions read as data. A view F of the heap holds the data that stay; H is the whole heap. -/
namespace LD
open PySem PySem.Spec PyProof.Rows L2

abbrev D := PyData
abbrev DE := List (Option D)

/-! ### data at a view -/
mutual
inductive Rp (F : Hp) : V → D → Prop
  | non : Rp F .non .none
  | bl (b : Bool) : Rp F (.bl b) (.bool b)
  | int (i : Int) : Rp F (.int i) (.int i)
  | str (x : Str) : Rp F (.str x) (.str x)
  | lst {a : Addr} {xs : List V} {ds : List D} : F a = some (.lst xs) → Rps F xs ds → Rp F (.ref a) (.list ds)
  | tup {a : Addr} {xs : List V} {ds : List D} : F a = some (.tup xs) → Rps F xs ds → Rp F (.ref a) (.tuple ds)
  | dct {a : Addr} {ks : List Int} : F a = some (.dK (ks.map fun k => (Sum.inl k, V.bl true))) → Rp F (.ref a) (.dict (ks.map fun k => (.int k, .bool true)))
inductive Rps (F : Hp) : List V → List D → Prop
  | nil : Rps F [] []
  | cons {v : V} {vs : List V} {d : D} {ds : List D} : Rp F v d → Rps F vs ds → Rps F (v :: vs) (d :: ds)
end

mutual
theorem Rp.mono {F F' : Hp} (e : Same F F') : ∀ {v : V} {d : D}, Rp F v d → Rp F' v d
  | _, _, .non => .non
  | _, _, .bl b => .bl b
  | _, _, .int i => .int i
  | _, _, .str x => .str x
  | _, _, .lst h r => .lst (e _ _ h) (Rps.mono e r)
  | _, _, .tup h r => .tup (e _ _ h) (Rps.mono e r)
  | _, _, .dct h => .dct (e _ _ h)
theorem Rps.mono {F F' : Hp} (e : Same F F') : ∀ {vs : List V} {ds : List D}, Rps F vs ds → Rps F' vs ds
  | _, _, .nil => .nil
  | _, _, .cons h r => .cons (Rp.mono e h) (Rps.mono e r)
end

theorem Rps.length {F : Hp} : ∀ {vs : List V} {ds : List D}, Rps F vs ds → vs.length = ds.length
  | _, _, .nil => rfl
  | _, _, .cons _ r => by rw [List.length_cons, List.length_cons, r.length]
theorem Rps.get {F : Hp} : ∀ {vs : List V} {ds : List D} {i : Nat} {d : D}, Rps F vs ds → ds[i]? = some d → ∃ v, vs[i]? = some v ∧ Rp F v d
  | _, _, _, _, .nil, e => by simp at e
  | _, _, 0, _, .cons h _, e => by simp at e; subst e; exact ⟨_, rfl, h⟩
  | _, _, i + 1, d, .cons _ r, e => by
    obtain ⟨v, h1, h2⟩ := r.get (i := i) (d := d) (by simpa using e)
    exact ⟨v, by simpa using h1, h2⟩
theorem Rps.get' {F : Hp} : ∀ {vs : List V} {ds : List D} {i : Nat} {v : V}, Rps F vs ds → vs[i]? = some v → ∃ d, ds[i]? = some d ∧ Rp F v d
  | _, _, _, _, .nil, e => by simp at e
  | _, _, 0, _, .cons h _, e => by simp at e; subst e; exact ⟨_, rfl, h⟩
  | _, _, i + 1, d, .cons _ r, e => by
    obtain ⟨v, h1, h2⟩ := r.get' (i := i) (by simpa using e)
    exact ⟨v, by simpa using h1, h2⟩
theorem Rps.append {F : Hp} : ∀ {vs ws : List V} {ds es : List D}, Rps F vs ds → Rps F ws es → Rps F (vs ++ ws) (ds ++ es)
  | _, _, _, _, .nil, s => s
  | _, _, _, _, .cons h r, s => .cons h (r.append s)
theorem Rps.take {F : Hp} : ∀ {vs : List V} {ds : List D} (n : Nat), Rps F vs ds → Rps F (vs.take n) (ds.take n)
  | _, _, 0, _ => .nil
  | _, _, _ + 1, .nil => .nil
  | _, _, n + 1, .cons h r => .cons h (r.take n)
theorem Rps.drop {F : Hp} : ∀ {vs : List V} {ds : List D} (n : Nat), Rps F vs ds → Rps F (vs.drop n) (ds.drop n)
  | _, _, 0, r => r
  | _, _, _ + 1, .nil => .nil
  | _, _, n + 1, .cons _ r => r.drop n
theorem Rps.rep {F : Hp} {vs : List V} {ds : List D} (r : Rps F vs ds) : ∀ n : Nat, Rps F (List.replicate n vs).flatten (List.replicate n ds).flatten
  | 0 => .nil
  | n + 1 => by
    rw [List.replicate_succ, List.replicate_succ, List.flatten_cons, List.flatten_cons]
    exact r.append (r.rep n)

/-! ### what a value is, from its data -/
section
variable {F : Hp} {v : V}
theorem Rp.int_of {i : Int} (h : Rp F v (.int i)) : v = .int i := by cases h; rfl
theorem Rp.bl_of {b : Bool} (h : Rp F v (.bool b)) : v = .bl b := by cases h; rfl
theorem Rp.str_of {x : Str} (h : Rp F v (.str x)) : v = .str x := by cases h; rfl
theorem Rp.non_of (h : Rp F v .none) : v = .non := by cases h; rfl
theorem Rp.lst_of {ds : List D} (h : Rp F v (.list ds)) : ∃ a xs, v = .ref a ∧ F a = some (.lst xs) ∧ Rps F xs ds := by
  cases h with
  | lst h r => exact ⟨_, _, rfl, h, r⟩
theorem Rp.tup_of {ds : List D} (h : Rp F v (.tuple ds)) : ∃ a xs, v = .ref a ∧ F a = some (.tup xs) ∧ Rps F xs ds := by
  cases h with
  | tup h r => exact ⟨_, _, rfl, h, r⟩
end
theorem keys_inj : ∀ {ks ls : List Int}, (ks.map fun k => ((PyData.int k, PyData.bool true) : D × D)) = ls.map (fun k => (PyData.int k, PyData.bool true)) → ks = ls
  | [], [], _ => rfl
  | [], _ :: _, h => by simp at h
  | _ :: _, [], h => by simp at h
  | a :: r, b :: t, h => by
    rw [List.map_cons, List.map_cons] at h
    injection h with h1 h2
    injection h1 with h3 _
    injection h3 with h4
    rw [h4, keys_inj h2]
theorem Rp.dct_of {F : Hp} {v : V} {ks : List Int} (h : Rp F v (.dict (ks.map fun k => (.int k, .bool true)))) : ∃ a, v = .ref a ∧ F a = some (.dK (ks.map fun k => (Sum.inl k, V.bl true))) := by
  generalize hd : (PyData.dict (ks.map fun k => (.int k, .bool true)) : D) = d at h
  cases h with
  | dct h =>
    injection hd with hd
    rw [keys_inj hd]
    exact ⟨_, rfl, h⟩
  | _ => cases hd

/-- int lists as data -/
abbrev iL (ns : List Int) : D := .list (ns.map .int)
theorem Rps.ints_of {F : Hp} : ∀ {vs : List V} {ns : List Int}, Rps F vs (ns.map .int) → vs = ns.map V.int
  | _, [], h => by cases h; rfl
  | _, n :: ns, h => by
    rw [List.map_cons] at h
    cases h with
    | cons h r => rw [h.int_of, Rps.ints_of r, List.map_cons]
theorem Rps.of_ints {F : Hp} : ∀ ns : List Int, Rps F (ns.map V.int) (ns.map .int)
  | [] => .nil
  | n :: ns => .cons (.int n) (Rps.of_ints ns)
theorem Rps.bools_of {F : Hp} : ∀ {vs : List V} {bs : List Bool}, Rps F vs (bs.map .bool) → vs = bs.map V.bl
  | _, [], h => by cases h; rfl
  | _, n :: ns, h => by
    rw [List.map_cons] at h
    cases h with
    | cons h r => rw [h.bl_of, Rps.bools_of r, List.map_cons]

/-! ### the slots -/
def Sl (σ : L2.St) (F : Hp) (δ : DE) : Prop := σ.length = δ.length ∧ ∀ (i : Nat) (d : D), δ[i]? = some (some d) → ∃ v, σ[i]? = some (some v) ∧ Rp F v d
theorem Sl.mono {σ : L2.St} {F F' : Hp} {δ : DE} (e : Same F F') (h : Sl σ F δ) : Sl σ F' δ := ⟨h.1, fun i d hd => by
  obtain ⟨v, h1, h2⟩ := h.2 i d hd
  exact ⟨v, h1, h2.mono e⟩⟩
theorem Sl.set {σ : L2.St} {F : Hp} {δ : DE} {v : V} {d : D} (h : Sl σ F δ) (r : Rp F v d) (i : Nat) : Sl (σ.set i (some v)) F (δ.set i (some d)) := by
  refine ⟨by rw [List.length_set, List.length_set, h.1], fun j e he => ?_⟩
  by_cases hij : i = j
  · subst hij
    by_cases hl : i < δ.length
    · rw [List.getElem?_set_self hl] at he
      cases he
      exact ⟨v, List.getElem?_set_self (by rw [h.1]; exact hl), r⟩
    · rw [List.getElem?_eq_none (by rw [List.length_set]; omega)] at he
      cases he
  · rw [List.getElem?_set_ne hij] at he
    obtain ⟨w, h1, h2⟩ := h.2 j e he
    exact ⟨w, by rw [List.getElem?_set_ne hij]; exact h1, h2⟩
theorem Sl.clear {σ : L2.St} {F : Hp} {δ : DE} (h : Sl σ F δ) (i : Nat) : Sl (σ.set i none) F (δ.set i none) := by
  refine ⟨by rw [List.length_set, List.length_set, h.1], fun j e he => ?_⟩
  by_cases hij : i = j
  · subst hij
    by_cases hl : i < δ.length
    · rw [List.getElem?_set_self hl] at he
      cases he
    · rw [List.getElem?_eq_none (by rw [List.length_set]; omega)] at he
      cases he
  · rw [List.getElem?_set_ne hij] at he
    obtain ⟨w, h1, h2⟩ := h.2 j e he
    exact ⟨w, by rw [List.getElem?_set_ne hij]; exact h1, h2⟩
/-- a slot holds something that is not told -/
theorem Sl.hide {σ : L2.St} {F : Hp} {δ : DE} (h : Sl σ F δ) (i : Nat) (x : Option V) : Sl (σ.set i x) F (δ.set i none) := by
  refine ⟨by rw [List.length_set, List.length_set, h.1], fun j e he => ?_⟩
  by_cases hij : i = j
  · subst hij
    by_cases hl : i < δ.length
    · rw [List.getElem?_set_self hl] at he
      cases he
    · rw [List.getElem?_eq_none (by rw [List.length_set]; omega)] at he
      cases he
  · rw [List.getElem?_set_ne hij] at he
    obtain ⟨w, h1, h2⟩ := h.2 j e he
    exact ⟨w, by rw [List.getElem?_set_ne hij]; exact h1, h2⟩
def wipeD (δ : DE) : List Nat → DE
  | [] => δ
  | v :: vs => (wipeD δ vs).set v none
theorem Sl.wipe {σ : L2.St} {F : Hp} {δ : DE} (h : Sl σ F δ) : ∀ vs : List Nat, Sl (L2.wipe σ vs) F (wipeD δ vs)
  | [] => h
  | v :: vs => (h.wipe vs).clear v

/-! ### heaps that grow -/
structure Ext (F H F' H' : Hp) : Prop where
  h : Same H H'
  f : Same F F'
  s : Same F' H'
  n : ∀ b, H b ≠ none → F' b = F b
theorem Ext.refl {F H : Hp} (s : Same F H) : Ext F H F H := ⟨Same.refl _, Same.refl _, s, fun _ _ => rfl⟩
theorem Same.some_of {H H' : Hp} (s : Same H H') {b : Addr} (h : H b ≠ none) : H' b ≠ none := by
  cases e : H b with
  | none => exact absurd e h
  | some o =>
    rw [s b o e]
    exact fun z => nomatch z
theorem Ext.trans {F H F1 H1 F2 H2 : Hp} (a : Ext F H F1 H1) (b : Ext F1 H1 F2 H2) : Ext F H F2 H2 :=
  ⟨a.h.trans b.h, a.f.trans b.f, b.s, fun c h => (b.n c (Same.some_of a.h h)).trans (a.n c h)⟩
theorem same_none {F H : Hp} (s : Same F H) {p : Addr} (h : H p = none) : F p = none := by
  cases e : F p with
  | none => rfl
  | some o =>
    rw [s p o e] at h
    cases h
theorem same_upd {H : Hp} {p : Addr} {o : HO} (h : H p = none) : Same H (upd H p o) := fun b x e => by
  rw [upd_ne (ne_of_none e h)]
  exact e
theorem same_upd2 {F H : Hp} {p : Addr} {o : HO} (s : Same F H) : Same (upd F p o) (upd H p o) := fun b x e => by
  by_cases hb : b = p
  · subst hb
    rw [upd_same] at e ⊢
    exact e
  · rw [upd_ne hb] at e ⊢
    exact s b x e
theorem Ext.new {F H : Hp} {p : Addr} {o : HO} (s : Same F H) (h : H p = none) : Ext F H (upd F p o) (upd H p o) :=
  ⟨same_upd h, same_upd (same_none s h), same_upd2 s, fun b hb => by
    have : b ≠ p := fun z => hb (z ▸ h)
    rw [upd_ne this]⟩
/-- a new object is frozen later: it stands in H', not yet in the view -/
theorem Ext.freeze {F H F' H' : Hp} {p : Addr} {o : HO} (h0 : H p = none) (hh : Same H H') (hf : Same F F') (hs : Same F' H') (hn : ∀ b, H b ≠ none → F' b = F b) (hp : F' p = none) (ho : H' p = some o) : Ext F H (upd F' p o) H' :=
  ⟨hh, hf.trans (same_upd hp), fun b x e => by
    by_cases hb : b = p
    · subst hb
      rw [upd_same] at e
      rw [ho]
      exact e
    · rw [upd_ne hb] at e
      exact hs b x e, fun b hb => by
    have : b ≠ p := fun z => hb (z ▸ h0)
    rw [upd_ne this]
    exact hn b hb⟩

/-! ### what evaluates to what -/
def EvD (te : TE) (δ : DE) (d : D) : Prop := ∀ (σ : L2.St) (F H : Hp), Same F H → Sl σ F δ → ∀ Q : VK, (∀ v F' H', Ext F H F' H' → Rp F' v d → Q v H') → te σ H Q
def EvT (tt : TT) (δ : DE) (b : Bool) : Prop := ∀ (σ : L2.St) (F H : Hp), Same F H → Sl σ F δ → ∀ Q : Bool → Hp → Prop, (∀ F' H', Ext F H F' H' → Q b H') → tt σ H Q
def EvA (ta : TA) (δ : DE) (ds : List D) : Prop := ∀ (σ : L2.St) (F H : Hp), Same F H → Sl σ F δ → ∀ Q : List V → Hp → Prop, (∀ vs F' H', Ext F H F' H' → Rps F' vs ds → Q vs H') → ta σ H Q
def EvO (to : TO) (δ : DE) (o : Option Int) : Prop := ∀ (σ : L2.St) (F H : Hp), Same F H → Sl σ F δ → ∀ Q : Option Int → Hp → Prop, (∀ F' H', Ext F H F' H' → Q o H') → to σ H Q
/-- operations on values -/
def RvD (r : R2) (x y z : D) : Prop := ∀ (v w : V) (F H : Hp), Same F H → Rp F v x → Rp F w y → ∀ Q : VK, (∀ u F' H', Ext F H F' H' → Rp F' u z → Q u H') → r v w H Q
def RuD (r : V → Hp → VK → Prop) (x z : D) : Prop := ∀ (v : V) (F H : Hp), Same F H → Rp F v x → ∀ Q : VK, (∀ u F' H', Ext F H F' H' → Rp F' u z → Q u H') → r v H Q
def RcD (r : List V → Hp → VK → Prop) (xs : List D) (z : D) : Prop := ∀ (vs : List V) (F H : Hp), Same F H → Rps F vs xs → ∀ Q : VK, (∀ u F' H', Ext F H F' H' → Rp F' u z → Q u H') → r vs H Q

section
variable {δ : DE} {ta tb te : TE} {t u : TT} {x y z d : D} {r : R2} {K : PySem.W.Frag}
theorem EvD.to (h : EvD te δ x) (e : x = y) : EvD te δ y := e ▸ h
theorem EvT.to {a b : Bool} (h : EvT t δ a) (e : a = b) : EvT t δ b := e ▸ h
theorem ev_var {i : Nat} (h : δ[i]? = some (some d)) : EvD (tVar i) δ d := fun σ F H s hl Q q => by
  obtain ⟨v, h1, h2⟩ := hl.2 i d h
  exact ⟨v, h1, q v F H (Ext.refl s) h2⟩
theorem ev_int {i : Int} : EvD (tC (.int i)) δ (.int i) := fun σ F H s hl Q q => q _ F H (Ext.refl s) (.int i)
theorem ev_bl {b : Bool} : EvD (tC (.bl b)) δ (.bool b) := fun σ F H s hl Q q => q _ F H (Ext.refl s) (.bl b)
theorem ev_non : EvD (tC .non) δ .none := fun σ F H s hl Q q => q _ F H (Ext.refl s) .non
theorem ev_op (ha : EvD ta δ x) (hb : EvD tb δ y) (hr : RvD r x y z) : EvD (tOp r ta tb) δ z := fun σ F H s hl Q q =>
  ha σ F H s hl _ fun v F1 H1 e1 r1 => hb σ F1 H1 e1.s (hl.mono e1.f) _ fun w F2 H2 e2 r2 => hr v w F2 H2 e2.s (r1.mono e2.f) r2 Q fun u F3 H3 e3 r3 => q u F3 H3 ((e1.trans e2).trans e3) r3
theorem ev_un {r : V → Hp → VK → Prop} (ha : EvD ta δ x) (hr : RuD r x z) : EvD (tUn r ta) δ z := fun σ F H s hl Q q =>
  ha σ F H s hl _ fun v F1 H1 e1 r1 => hr v F1 H1 e1.s r1 Q fun u F3 H3 e3 r3 => q u F3 H3 (e1.trans e3) r3
theorem ea_nil : EvA tNil δ [] := fun σ F H s hl Q q => q [] F H (Ext.refl s) .nil
theorem ea_cons {tr : TA} {ds : List D} (h : EvD te δ x) (hr : EvA tr δ ds) : EvA (tCons te tr) δ (x :: ds) := fun σ F H s hl Q q =>
  h σ F H s hl _ fun v F1 H1 e1 r1 => hr σ F1 H1 e1.s (hl.mono e1.f) _ fun vs F2 H2 e2 r2 => q (v :: vs) F2 H2 (e1.trans e2) (.cons (r1.mono e2.f) r2)
theorem ev_cb {r : List V → Hp → VK → Prop} {t : TA} {ds : List D} (h : EvA t δ ds) (hr : RcD r ds z) : EvD (tCB r t) δ z := fun σ F H s hl Q q =>
  h σ F H s hl _ fun vs F1 H1 e1 r1 => hr vs F1 H1 e1.s r1 Q fun u F3 H3 e3 r3 => q u F3 H3 (e1.trans e3) r3
theorem ev_tup {t : TA} {ds : List D} (h : EvA t δ ds) (hz : ds.length ≤ sizeLine := by exact Nat.le_of_ble_eq_true rfl) : EvD (tTup t) δ (.tuple ds) := fun σ F H s hl Q q =>
  h σ F H s hl _ fun vs F1 H1 e1 r1 => ⟨by rw [r1.length]; exact hz, fun p hp => q _ (upd F1 p (.tup vs)) _ (e1.trans (Ext.new e1.s hp)) (.tup upd_same (r1.mono (same_upd (same_none e1.s hp))))⟩
theorem ev_lst {t : TA} {ds : List D} (h : EvA t δ ds) (hz : ds.length ≤ sizeLine := by exact Nat.le_of_ble_eq_true rfl) : EvD (tLst t) δ (.list ds) := fun σ F H s hl Q q =>
  h σ F H s hl _ fun vs F1 H1 e1 r1 => ⟨by rw [r1.length]; exact hz, fun p hp => q _ (upd F1 p (.lst vs)) _ (e1.trans (Ext.new e1.s hp)) (.lst upd_same (r1.mono (same_upd (same_none e1.s hp))))⟩

/-! tests -/
theorem et_test {b : Bool} (h : EvD te δ (.bool b)) : EvT (tTest te) δ b := fun σ F H s hl Q q => h σ F H s hl _ fun v F1 H1 e1 r1 => ⟨b, r1.bl_of, q F1 H1 e1⟩
theorem et_B {b : Bool} (h : EvD te δ (.bool b)) : EvT (tB te) δ b := fun σ F H s hl Q q => h σ F H s hl _ fun v F1 H1 e1 r1 => ⟨b, r1.bl_of, q F1 H1 e1⟩
theorem et_yes : EvT tYes δ true := fun σ F H s hl Q q => q F H (Ext.refl s)
theorem et_and {a b : Bool} (h1 : EvT t δ a) (h2 : a = true → EvT u δ b) : EvT (tAnd t u) δ (a && b) := fun σ F H s hl Q q => h1 σ F H s hl _ fun F1 H1 e1 => by
  cases a with
  | true =>
    rw [if_pos rfl]
    exact h2 rfl σ F1 H1 e1.s (hl.mono e1.f) Q fun F2 H2 e2 => q F2 H2 (e1.trans e2)
  | false =>
    rw [if_neg Bool.false_ne_true]
    exact q F1 H1 e1
theorem et_or {a b : Bool} (h1 : EvT t δ a) (h2 : a = false → EvT u δ b) : EvT (tOr t u) δ (a || b) := fun σ F H s hl Q q => h1 σ F H s hl _ fun F1 H1 e1 => by
  cases a with
  | true =>
    rw [if_pos rfl]
    exact q F1 H1 e1
  | false =>
    rw [if_neg Bool.false_ne_true]
    exact h2 rfl σ F1 H1 e1.s (hl.mono e1.f) Q fun F2 H2 e2 => q F2 H2 (e1.trans e2)
theorem et_not {a : Bool} (h1 : EvT t δ a) : EvT (tNot t) δ (!a) := fun σ F H s hl Q q => h1 σ F H s hl _ fun F1 H1 e1 => q F1 H1 e1
theorem ev_andV {a b : Bool} (h1 : EvD ta δ (.bool a)) (h2 : a = true → EvD tb δ (.bool b)) : EvD (tAndV ta tb) δ (.bool (a && b)) := fun σ F H s hl Q q => h1 σ F H s hl _ fun v F1 H1 e1 r1 => ⟨a, r1.bl_of, by
  cases a with
  | true =>
    rw [if_pos rfl]
    exact h2 rfl σ F1 H1 e1.s (hl.mono e1.f) Q fun u F2 H2 e2 r2 => q u F2 H2 (e1.trans e2) r2
  | false =>
    rw [if_neg Bool.false_ne_true]
    exact q _ F1 H1 e1 (.bl false)⟩
theorem ev_if {b : Bool} (h : EvT t δ b) (h1 : b = true → EvD ta δ d) (h2 : b = false → EvD tb δ d) : EvD (tIf t ta tb) δ d := fun σ F H s hl Q q => h σ F H s hl _ fun F1 H1 e1 => by
  cases b with
  | true =>
    rw [if_pos rfl]
    exact h1 rfl σ F1 H1 e1.s (hl.mono e1.f) Q fun u F2 H2 e2 r2 => q u F2 H2 (e1.trans e2) r2
  | false =>
    rw [if_neg Bool.false_ne_true]
    exact h2 rfl σ F1 H1 e1.s (hl.mono e1.f) Q fun u F2 H2 e2 r2 => q u F2 H2 (e1.trans e2) r2

/-! operators on iL -/
theorem rv_I0 {g : Int → Int → V} {i j : Int} (hg : ∀ F, Rp F (g i j) z) : RvD (rI0 g) (.int i) (.int j) z := fun v w F H s h1 h2 Q q => ⟨i, j, h1.int_of, h2.int_of, q _ F H (Ext.refl s) (hg F)⟩
theorem rv_I {C : Int → Int → Prop} {g : Int → Int → V} {i j : Int} (hc : C i j) (hg : ∀ F, Rp F (g i j) z) : RvD (rI C g) (.int i) (.int j) z := fun v w F H s h1 h2 Q q => ⟨i, j, h1.int_of, h2.int_of, hc, q _ F H (Ext.refl s) (hg F)⟩
end
abbrev rAdd : R2 := rI0 fun i j => .int (i + j)
abbrev rSub : R2 := rI0 fun i j => .int (i - j)
abbrev rMul : R2 := rI CMul fun i j => .int (i * j)
abbrev rMulW : R2 := rI CMulW fun i j => .int (i * j)
abbrev rDiv : R2 := rI CDiv fun i j => .int (i / j)
abbrev rMod : R2 := rI (fun _ j => 0 < j) fun i j => .int (i % j)
abbrev rLt : R2 := rI0 fun i j => .bl (decide (i < j))
abbrev rLe : R2 := rI0 fun i j => .bl (decide (i ≤ j))
abbrev rGt : R2 := rI0 fun i j => .bl (decide (j < i))
abbrev rGe : R2 := rI0 fun i j => .bl (decide (j ≤ i))
abbrev rNegU : V → Hp → VK → Prop := rU fun i => .int (-i)
section
variable {δ : DE} {ta tb te : TE} {t u : TT} {x y z d : D} {K : PySem.W.Frag} {i j : Int}
theorem ev_add (ha : EvD ta δ (.int i)) (hb : EvD tb δ (.int j)) : EvD (tOp rAdd ta tb) δ (.int (i + j)) := ev_op ha hb (rv_I0 fun _ => .int _)
theorem ev_sub (ha : EvD ta δ (.int i)) (hb : EvD tb δ (.int j)) : EvD (tOp rSub ta tb) δ (.int (i - j)) := ev_op ha hb (rv_I0 fun _ => .int _)
theorem ev_mul (ha : EvD ta δ (.int i)) (hb : EvD tb δ (.int j)) (h : CMul i j) : EvD (tOp rMul ta tb) δ (.int (i * j)) := ev_op ha hb (rv_I h fun _ => .int _)
theorem ev_div (ha : EvD ta δ (.int i)) (hb : EvD tb δ (.int j)) (h : 0 < j) (h' : j < 1073741824) : EvD (tOp rDiv ta tb) δ (.int (i / j)) := ev_op ha hb (rv_I ⟨h, h'⟩ fun _ => .int _)
theorem ev_mod (ha : EvD ta δ (.int i)) (hb : EvD tb δ (.int j)) (h : 0 < j) : EvD (tOp rMod ta tb) δ (.int (i % j)) := ev_op ha hb (rv_I h fun _ => .int _)
theorem ev_lt (ha : EvD ta δ (.int i)) (hb : EvD tb δ (.int j)) : EvD (tOp rLt ta tb) δ (.bool (decide (i < j))) := ev_op ha hb (rv_I0 fun _ => .bl _)
theorem ev_le (ha : EvD ta δ (.int i)) (hb : EvD tb δ (.int j)) : EvD (tOp rLe ta tb) δ (.bool (decide (i ≤ j))) := ev_op ha hb (rv_I0 fun _ => .bl _)
theorem ev_gt (ha : EvD ta δ (.int i)) (hb : EvD tb δ (.int j)) : EvD (tOp rGt ta tb) δ (.bool (decide (j < i))) := ev_op ha hb (rv_I0 fun _ => .bl _)
theorem ev_ge (ha : EvD ta δ (.int i)) (hb : EvD tb δ (.int j)) : EvD (tOp rGe ta tb) δ (.bool (decide (j ≤ i))) := ev_op ha hb (rv_I0 fun _ => .bl _)
theorem ev_neg (ha : EvD ta δ (.int i)) : EvD (tUn rNegU ta) δ (.int (-i)) := ev_un ha fun v F H s h Q q => ⟨i, h.int_of, q _ F H (Ext.refl s) (.int _)⟩
theorem ev_eqI (ha : EvD ta δ (.int i)) (hb : EvD tb δ (.int j)) : EvD (tOp rEq ta tb) δ (.bool (decide (i = j))) := ev_op ha hb fun v w F H s h1 h2 Q q => by
  rw [h1.int_of, h2.int_of]
  refine ⟨rfl, q _ F H (Ext.refl s) ?_⟩
  have e : decide (V.int i = V.int j) = decide (i = j) := decide_eq_decide.mpr ⟨fun h => V.int.inj h, fun h => by rw [h]⟩
  rw [e]
  exact .bl _
theorem ev_neI (ha : EvD ta δ (.int i)) (hb : EvD tb δ (.int j)) : EvD (tOp rNe ta tb) δ (.bool (!decide (i = j))) := ev_op ha hb fun v w F H s h1 h2 Q q => by
  rw [h1.int_of, h2.int_of]
  refine ⟨rfl, q _ F H (Ext.refl s) ?_⟩
  have e : decide (V.int i = V.int j) = decide (i = j) := decide_eq_decide.mpr ⟨fun h => V.int.inj h, fun h => by rw [h]⟩
  rw [e]
  exact .bl _
theorem ev_eqS {x y : Str} (ha : EvD ta δ (.str x)) (hb : EvD tb δ (.str y)) : EvD (tOp rEq ta tb) δ (.bool (decide (x = y))) := ev_op ha hb fun v w F H s h1 h2 Q q => by
  rw [h1.str_of, h2.str_of]
  refine ⟨rfl, q _ F H (Ext.refl s) ?_⟩
  have e : decide (V.str x = V.str y) = decide (x = y) := decide_eq_decide.mpr ⟨fun h => V.str.inj h, fun h => by rw [h]⟩
  rw [e]
  exact .bl _
theorem ev_neS {x y : Str} (ha : EvD ta δ (.str x)) (hb : EvD tb δ (.str y)) : EvD (tOp rNe ta tb) δ (.bool (!decide (x = y))) := ev_op ha hb fun v w F H s h1 h2 Q q => by
  rw [h1.str_of, h2.str_of]
  refine ⟨rfl, q _ F H (Ext.refl s) ?_⟩
  have e : decide (V.str x = V.str y) = decide (x = y) := decide_eq_decide.mpr ⟨fun h => V.str.inj h, fun h => by rw [h]⟩
  rw [e]
  exact .bl _
theorem ev_neB {x y : Bool} (ha : EvD ta δ (.bool x)) (hb : EvD tb δ (.bool y)) : EvD (tOp rNe ta tb) δ (.bool (!decide (x = y))) := ev_op ha hb fun v w F H s h1 h2 Q q => by
  rw [h1.bl_of, h2.bl_of]
  refine ⟨rfl, q _ F H (Ext.refl s) ?_⟩
  have e : decide (V.bl x = V.bl y) = decide (x = y) := decide_eq_decide.mpr ⟨fun h => V.bl.inj h, fun h => by rw [h]⟩
  rw [e]
  exact .bl _

/-! is None -/
def isN : D → Bool
  | .none => true
  | _ => false
theorem rp_isN {F : Hp} {v : V} {d : D} (h : Rp F v d) : decide (v = .non) = isN d := by
  cases h <;> rfl
theorem ev_isN (ha : EvD ta δ d) : EvD (tIsN ta) δ (.bool (isN d)) := fun σ F H s hl Q q => ha σ F H s hl _ fun v F1 H1 e1 r1 => by
  rw [rp_isN r1]
  exact q _ F1 H1 e1 (.bl _)
theorem ev_notN (ha : EvD ta δ d) : EvD (tNotN ta) δ (.bool (!isN d)) := fun σ F H s hl Q q => ha σ F H s hl _ fun v F1 H1 e1 r1 => by
  rw [rp_isN r1]
  exact q _ F1 H1 e1 (.bl _)

/-! built-ins -/
abbrev rLenQ (K : PySem.W.Frag) : List V → Hp → VK → Prop := fun xs H Q => ∃ p ys, xs = [.ref p] ∧ (SqL K H p ys ∨ SqT K H p ys) ∧ Q (.int ys.length) H
abbrev rMax2 : List V → Hp → VK → Prop := fun xs H Q => ∃ i j, xs = [.int i, .int j] ∧ Q (.int (if j > i then j else i)) H
abbrev rMin2 : List V → Hp → VK → Prop := fun xs H Q => ∃ i j, xs = [.int i, .int j] ∧ Q (.int (if j < i then j else i)) H
abbrev rAbs : List V → Hp → VK → Prop := fun xs H Q => ∃ i, xs = [.int i] ∧ Q (.int (if i < 0 then -i else i)) H
abbrev rInt1 : List V → Hp → VK → Prop := fun xs H Q => (∃ i, xs = [.int i] ∧ Q (.int i) H) ∨ ∃ k, xs = [.bl k] ∧ Q (.int (if k then 1 else 0)) H
abbrev rDivmod : List V → Hp → VK → Prop := fun xs H Q => ∃ i j, xs = [.int i, .int j] ∧ CDiv i j ∧ ∀ p, H p = none → Q (.ref p) (upd H p (.tup [.int (i / j), .int (i % j)]))
theorem rps1 {F : Hp} {vs : List V} {d : D} (h : Rps F vs [d]) : ∃ v, vs = [v] ∧ Rp F v d := by
  cases h with
  | cons h r => cases r; exact ⟨_, rfl, h⟩
theorem rps2 {F : Hp} {vs : List V} {d e : D} (h : Rps F vs [d, e]) : ∃ v w, vs = [v, w] ∧ Rp F v d ∧ Rp F w e := by
  cases h with
  | cons h1 r1 =>
    obtain ⟨w, e, r2⟩ := rps1 r1
    subst e
    exact ⟨_, _, rfl, h1, r2⟩
theorem rps3 {F : Hp} {vs : List V} {d e f : D} (h : Rps F vs [d, e, f]) : ∃ v w u, vs = [v, w, u] ∧ Rp F v d ∧ Rp F w e ∧ Rp F u f := by
  cases h with
  | cons h1 r1 =>
    obtain ⟨w, u, e, r2, r3⟩ := rps2 r1
    subst e
    exact ⟨_, _, _, rfl, h1, r2, r3⟩
theorem ev_lenL {ds : List D} (h : EvD ta δ (.list ds)) : EvD (tCB (rLenQ K) (tCons ta tNil)) δ (.int ds.length) := ev_cb (ea_cons h ea_nil) fun vs F H s hr Q q => by
  obtain ⟨v, rfl, r⟩ := rps1 hr
  obtain ⟨a, xs, rfl, e, rr⟩ := r.lst_of
  refine ⟨a, xs, rfl, .inl (SqL.of (s _ _ e)), q _ F H (Ext.refl s) ?_⟩
  rw [rr.length]
  exact .int _
theorem ev_max2 (ha : EvD ta δ (.int i)) (hb : EvD tb δ (.int j)) : EvD (tCB rMax2 (tCons ta (tCons tb tNil))) δ (.int (max i j)) := ev_cb (ea_cons ha (ea_cons hb ea_nil)) fun vs F H s hr Q q => by
  obtain ⟨v, w, rfl, r1, r2⟩ := rps2 hr
  refine ⟨i, j, by rw [r1.int_of, r2.int_of], q _ F H (Ext.refl s) ?_⟩
  have e : (if j > i then j else i) = max i j := by split <;> omega
  rw [e]
  exact .int _
theorem ev_min2 (ha : EvD ta δ (.int i)) (hb : EvD tb δ (.int j)) : EvD (tCB rMin2 (tCons ta (tCons tb tNil))) δ (.int (min i j)) := ev_cb (ea_cons ha (ea_cons hb ea_nil)) fun vs F H s hr Q q => by
  obtain ⟨v, w, rfl, r1, r2⟩ := rps2 hr
  refine ⟨i, j, by rw [r1.int_of, r2.int_of], q _ F H (Ext.refl s) ?_⟩
  have e : (if j < i then j else i) = min i j := by split <;> omega
  rw [e]
  exact .int _
theorem ev_intB {b : Bool} (ha : EvD ta δ (.bool b)) : EvD (tCB rInt1 (tCons ta tNil)) δ (.int (if b then 1 else 0)) := ev_cb (ea_cons ha ea_nil) fun vs F H s hr Q q => by
  obtain ⟨v, rfl, r⟩ := rps1 hr
  exact .inr ⟨b, by rw [r.bl_of], q _ F H (Ext.refl s) (.int _)⟩
theorem ev_intI (ha : EvD ta δ (.int i)) : EvD (tCB rInt1 (tCons ta tNil)) δ (.int i) := ev_cb (ea_cons ha ea_nil) fun vs F H s hr Q q => by
  obtain ⟨v, rfl, r⟩ := rps1 hr
  exact .inl ⟨i, by rw [r.int_of], q _ F H (Ext.refl s) (.int _)⟩
theorem ev_abs (ha : EvD ta δ (.int i)) : EvD (tCB rAbs (tCons ta tNil)) δ (.int (if i < 0 then -i else i)) := ev_cb (ea_cons ha ea_nil) fun vs F H s hr Q q => by
  obtain ⟨v, rfl, r⟩ := rps1 hr
  exact ⟨i, by rw [r.int_of], q _ F H (Ext.refl s) (.int _)⟩
theorem ev_divmod (ha : EvD ta δ (.int i)) (hb : EvD tb δ (.int j)) (h : 0 < j) (h' : j < 1073741824) : EvD (tCB rDivmod (tCons ta (tCons tb tNil))) δ (.tuple [.int (i / j), .int (i % j)]) := ev_cb (ea_cons ha (ea_cons hb ea_nil)) fun vs F H s hr Q q => by
  obtain ⟨v, w, rfl, r1, r2⟩ := rps2 hr
  exact ⟨i, j, by rw [r1.int_of, r2.int_of], ⟨h, h'⟩, fun p hp => q _ (upd F p (.tup [.int (i / j), .int (i % j)])) _ (Ext.new s hp) (.tup upd_same (.cons (.int _) (.cons (.int _) .nil)))⟩
theorem ev_sum {ns : List Int} (h : EvD ta δ (iL ns)) : EvD (tCB (rSum K) (tCons ta tNil)) δ (.int ns.sum) := ev_cb (ea_cons h ea_nil) fun vs F H s hr Q q => by
  obtain ⟨v, rfl, r⟩ := rps1 hr
  obtain ⟨a, xs, rfl, e, rr⟩ := r.lst_of
  rw [rr.ints_of] at e
  exact ⟨a, ns, rfl, SqL.of (s _ _ e), q _ F H (Ext.refl s) (.int _)⟩
theorem ev_all {bs : List Bool} (h : EvD ta δ (.list (bs.map .bool))) : EvD (tCB (rAll K) (tCons ta tNil)) δ (.bool (bs.all id)) := ev_cb (ea_cons h ea_nil) fun vs F H s hr Q q => by
  obtain ⟨v, rfl, r⟩ := rps1 hr
  obtain ⟨a, xs, rfl, e, rr⟩ := r.lst_of
  rw [rr.bools_of] at e
  exact ⟨a, bs, rfl, SqL.of (s _ _ e), q _ F H (Ext.refl s) (.bl _)⟩

/-! lists and tuples -/
theorem ev_cat {xs ys : List D} (ha : EvD ta δ (.list xs)) (hb : EvD tb δ (.list ys)) (hz : xs.length + ys.length ≤ sizeLine) : EvD (tOp rCat ta tb) δ (.list (xs ++ ys)) := ev_op ha hb fun v w F H s h1 h2 Q q => by
  obtain ⟨a, vs, rfl, e1, r1⟩ := h1.lst_of
  obtain ⟨b, ws, rfl, e2, r2⟩ := h2.lst_of
  refine ⟨a, b, vs, ws, rfl, rfl, s _ _ e1, s _ _ e2, by rw [r1.length, r2.length]; exact hz, fun p hp => ?_⟩
  exact q _ (upd F p (.lst (vs ++ ws))) _ (Ext.new s hp) (.lst upd_same ((r1.append r2).mono (same_upd (same_none s hp))))
theorem ev_rep {xs : List D} {k : Int} (ha : EvD ta δ (.list xs)) (hb : EvD tb δ (.int k)) (h1 : -(2 ^ 63) ≤ k) (h2 : k < 2 ^ 63) (hz : xs.length * k.toNat ≤ sizeLine) : EvD (tOp rRep ta tb) δ (.list (List.replicate k.toNat xs).flatten) := ev_op ha hb fun v w F H s r1 r2 Q q => by
  obtain ⟨a, vs, rfl, e1, r1⟩ := r1.lst_of
  refine ⟨a, k, vs, rfl, r2.int_of, s _ _ e1, h1, h2, by rw [r1.length]; exact hz, fun p hp => ?_⟩
  exact q _ (upd F p (.lst (List.replicate k.toNat vs).flatten)) _ (Ext.new s hp) (.lst upd_same ((r1.rep k.toNat).mono (same_upd (same_none s hp))))
theorem atI_get {F : Hp} {vs : List V} {ds : List D} {i : Int} {d : D} (r : Rps F vs ds) (h : atI ds i = some d) : ∃ v, atI vs i = some v ∧ Rp F v d := by
  unfold atI at h ⊢
  rw [r.length]
  cases e : ixN ds.length i with
  | none =>
    rw [e] at h
    cases h
  | some k =>
    rw [e] at h
    exact r.get h
theorem ev_ixL {xs : List D} (ha : EvD ta δ (.list xs)) (hb : EvD tb δ (.int i)) (h : atI xs i = some d) : EvD (tOp (rIxL K) ta tb) δ d := ev_op ha hb fun v w F H s h1 h2 Q q => by
  obtain ⟨a, vs, rfl, e1, r1⟩ := h1.lst_of
  obtain ⟨u, hu, ru⟩ := atI_get r1 h
  exact ⟨a, vs, i, u, rfl, h2.int_of, SqL.of (s _ _ e1), hu, q _ F H (Ext.refl s) ru⟩
theorem ev_ixT {xs : List D} (ha : EvD ta δ (.tuple xs)) (hb : EvD tb δ (.int i)) (h : atI xs i = some d) : EvD (tOp (rIxT K) ta tb) δ d := ev_op ha hb fun v w F H s h1 h2 Q q => by
  obtain ⟨a, vs, rfl, e1, r1⟩ := h1.tup_of
  obtain ⟨u, hu, ru⟩ := atI_get r1 h
  exact ⟨a, vs, i, u, rfl, h2.int_of, SqT.of (s _ _ e1), hu, q _ F H (Ext.refl s) ru⟩
def cutD (xs : List D) (lo hi : Option Int) : List D := (xs.drop (HT.sIx xs.length 0 lo)).take (HT.sIx xs.length xs.length hi - HT.sIx xs.length 0 lo)
theorem rps_cut {F : Hp} {vs : List V} {ds : List D} {lo hi : Option Int} (r : Rps F vs ds) : Rps F (cutV vs lo hi) (cutD ds lo hi) := by
  unfold cutV cutD
  rw [r.length]
  exact (r.drop _).take _
theorem eo_some (h : EvD te δ (.int i)) : EvO (tPart te) δ (some i) := fun σ F H s hl Q q => h σ F H s hl _ fun v F1 H1 e1 r1 => ⟨i, r1.int_of, q F1 H1 e1⟩
theorem eo_none : EvO tNoPart δ none := fun σ F H s hl Q q => q F H (Ext.refl s)
theorem ev_slL {xs : List D} {tl th : TO} {lo hi : Option Int} (ha : EvD ta δ (.list xs)) (hl : EvO tl δ lo) (hh : EvO th δ hi) : EvD (tSl (rSlL K) ta tl th) δ (.list (cutD xs lo hi)) := fun σ F H s sl Q q =>
  ha σ F H s sl _ fun v F1 H1 e1 r1 => hl σ F1 H1 e1.s (sl.mono e1.f) _ fun F2 H2 e2 => hh σ F2 H2 e2.s (sl.mono (e1.trans e2).f) _ fun F3 H3 e3 => by
    obtain ⟨a, vs, rfl, e, r⟩ := (r1.mono (e2.trans e3).f).lst_of
    exact ⟨a, vs, rfl, SqL.of (e3.s _ _ e), fun p hp => q _ (upd F3 p (.lst (cutV vs lo hi))) _ (((e1.trans e2).trans e3).trans (Ext.new e3.s hp)) (.lst upd_same ((rps_cut r).mono (same_upd (same_none e3.s hp))))⟩
theorem ev_slT {xs : List D} {tl th : TO} {lo hi : Option Int} (ha : EvD ta δ (.tuple xs)) (hl : EvO tl δ lo) (hh : EvO th δ hi) (hw : ¬ (HT.sIx xs.length 0 lo = 0 ∧ HT.sIx xs.length xs.length hi = xs.length)) : EvD (tSl (rSlT K) ta tl th) δ (.tuple (cutD xs lo hi)) := fun σ F H s sl Q q =>
  ha σ F H s sl _ fun v F1 H1 e1 r1 => hl σ F1 H1 e1.s (sl.mono e1.f) _ fun F2 H2 e2 => hh σ F2 H2 e2.s (sl.mono (e1.trans e2).f) _ fun F3 H3 e3 => by
    obtain ⟨a, vs, rfl, e, r⟩ := (r1.mono (e2.trans e3).f).tup_of
    exact ⟨a, vs, rfl, SqT.of (e3.s _ _ e), by rw [r.length]; exact hw, fun p hp => q _ (upd F3 p (.tup (cutV vs lo hi))) _ (((e1.trans e2).trans e3).trans (Ext.new e3.s hp)) (.tup upd_same ((rps_cut r).mono (same_upd (same_none e3.s hp))))⟩
theorem rp_dp {F : Hp} {K : PySem.W.Frag} {H : Hp} (s : Same F H) : ∀ {v : V} {d : D}, Rp F v d → SeqAt.shaped d = true → Dp K H v d := by
  have main : ∀ n, ∀ {v : V} {d : D}, sizeOf d < n → Rp F v d → d.canLay0 = true → Dp K H v d := by
    intro n
    induction n with
    | zero => intro v d h; omega
    | succ n ih =>
      intro v d hn r hc
      have all : ∀ {vs : List V} {ds : List D}, sizeOf ds < n → Rps F vs ds → PyData.canLayAll0 ds = true → DpAll K H vs ds := by
        intro vs ds
        induction ds generalizing vs with
        | nil => intro _ r _; cases r; exact .nil
        | cons d ds ihd =>
          intro hs r hc
          have hc' : d.canLay0 = true ∧ PyData.canLayAll0 ds = true := by simpa [PyData.canLayAll0] using hc
          cases r with
          | cons r1 r2 =>
            have z : sizeOf (d :: ds) = 1 + sizeOf d + sizeOf ds := by simp
            exact .cons (ih (by omega) r1 hc'.1) (ihd (by omega) r2 hc'.2)
      cases r with
      | non => exact .non
      | bl b => exact .bl b
      | int i => exact .int i
      | str x => exact .str x
      | lst h r =>
        rename_i a xs ds
        have z : sizeOf (PyData.list ds) = 1 + sizeOf ds := by simp
        exact .lst (SqL.of (s _ _ h)) (all (by omega) r (by simpa [PyData.canLay0] using hc))
      | tup h r =>
        rename_i a xs ds
        have z : sizeOf (PyData.tuple ds) = 1 + sizeOf ds := by simp
        exact .tup (SqT.of (s _ _ h)) (all (by omega) r (by simpa [PyData.canLay0] using hc))
      | dct h => simp [PyData.canLay0] at hc
  intro v d r h
  exact main _ (Nat.lt_succ_self _) r (Bool.and_eq_true_iff.mp h).1
theorem ev_eqD (ha : EvD ta δ x) (hb : EvD tb δ y) (hx : SeqAt.shaped x = true) (hy : SeqAt.shaped y = true) : EvD (tOp (rEqD K) ta tb) δ (.bool (PyData.eqv x y)) := ev_op ha hb fun v w F H s h1 h2 Q q =>
  ⟨x, y, rp_dp s h1 hx, rp_dp s h2 hy, hx, hy, q _ F H (Ext.refl s) (.bl _)⟩
theorem ev_neD (ha : EvD ta δ x) (hb : EvD tb δ y) (hx : SeqAt.shaped x = true) (hy : SeqAt.shaped y = true) : EvD (tOp (rNeD K) ta tb) δ (.bool (!PyData.eqv x y)) := ev_op ha hb fun v w F H s h1 h2 Q q =>
  ⟨x, y, rp_dp s h1 hx, rp_dp s h2 hy, hx, hy, q _ F H (Ext.refl s) (.bl _)⟩
/-- n in a list of iL -/
theorem inV_ints {n : Int} : ∀ ns : List Int, inV (.int n) (ns.map V.int) = decide (n ∈ ns)
  | [] => by simp [inV]
  | m :: ns => by
    have ih := inV_ints (n := n) ns
    unfold inV at ih ⊢
    rw [List.map_cons, List.any_cons, ih]
    by_cases h : n = m
    · subst h; simp [eqV]
    · have h' : ¬ m = n := fun z => h z.symm
      by_cases h2 : n ∈ ns <;> simp [eqV, h, h', h2]
theorem flat_ints : ∀ ns : List Int, (ns.map V.int).all flatV = true
  | [] => rfl
  | _ :: ns => by rw [List.map_cons, List.all_cons, flat_ints ns]; rfl
theorem ev_inL {ns : List Int} (ha : EvD ta δ (.int i)) (hb : EvD tb δ (iL ns)) : EvD (tOp (rIn K false) ta tb) δ (.bool (decide (i ∈ ns))) := ev_op ha hb fun v w F H s h1 h2 Q q => by
  obtain ⟨a, vs, rfl, e1, r1⟩ := h2.lst_of
  have e2 := r1.ints_of
  subst e2
  rw [h1.int_of]
  refine ⟨a, ns.map V.int, rfl, .inl (SqL.of (s _ _ e1)), rfl, flat_ints ns, q _ F H (Ext.refl s) ?_⟩
  rw [if_neg Bool.false_ne_true, inV_ints]
  exact .bl _
/-- n in a dict of iL -/
theorem valV_keys {n : Int} : ∀ ks : List Int, (valV (ks.map fun k => ((Sum.inl k : Key), V.bl true)) (Sum.inl n)).isSome = decide (n ∈ ks)
  | [] => by simp [valV]
  | m :: ks => by
    have ih := valV_keys (n := n) ks
    by_cases h : n = m
    · subst h; simp [valV]
    · have h' : ¬ m = n := fun z => h z.symm
      simp only [List.map_cons]
      unfold valV at ih ⊢
      by_cases h2 : n ∈ ks <;> simp_all
theorem ev_dIn {ks : List Int} (ha : EvD ta δ (.int i)) (hb : EvD tb δ (.dict (ks.map fun k => (.int k, .bool true)))) : EvD (tDIn ta tb) δ (.bool (decide (i ∈ ks))) := fun σ F H s hl Q q =>
  ha σ F H s hl _ fun v F1 H1 e1 r1 => hb σ F1 H1 e1.s (hl.mono e1.f) _ fun w F2 H2 e2 r2 => by
    obtain ⟨a, rfl, e⟩ := r2.dct_of
    rw [r1.int_of]
    refine ⟨a, _, rfl, DGet.k (k := Sum.inl i) (e2.s _ _ e), ?_⟩
    rw [valV_keys]
    exact q _ F2 H2 (e1.trans e2) (.bl _)
end
end LD
/-! Dat2: what is walked, comprehensions, statements, calls, defs that only make new data. -/
namespace LD
open PySem PySem.Spec PyProof.Rows L2

/-! ### what is walked -/
/-- the iterator J gives the data ds, one by one, while G stands of the view -/
structure Gives (J : It) (ds : List D) (G : Hp → Prop) : Prop where
  mono : ∀ Fa Fb, Same Fa Fb → G Fa → G Fb
  go : ∀ i Fa Ha, Same Fa Ha → G Fa → i < ds.length → J.go i Ha
  stop : ∀ Fa Ha, Same Fa Ha → G Fa → J.stop ds.length Ha
  yld : ∀ i Fa Ha x Hb, Same Fa Ha → G Fa → i < ds.length → J.yld i Ha x Hb → ∃ Fb d, Ext Fa Ha Fb Hb ∧ ds[i]? = some d ∧ Rp Fb x d
def EvI (wi : TI) (δ : DE) (ds : List D) : Prop := ∀ (σ : L2.St) (F H : Hp), Same F H → Sl σ F δ → ∀ R : It → Hp → Prop, (∀ J F1 H1 G, Ext F H F1 H1 → G F1 → Gives J ds G → R J H1) → wi σ H R

section
variable {δ : DE} {ta tb te : TE} {t u : TT} {K : PySem.W.Frag}
theorem ei_list {ds : List D} (h : EvD te δ (.list ds)) : EvI (iList K te) δ ds := fun σ F H s hl R q => h σ F H s hl _ fun v F1 H1 e1 r1 => by
  obtain ⟨a, xs, rfl, e, r⟩ := r1.lst_of
  refine ⟨a, rfl, ⟨xs, SqL.of (e1.s _ _ e)⟩, q _ F1 H1 (fun F => F a = some (.lst xs) ∧ Rps F xs ds) e1 ⟨e, r⟩ ⟨fun Fa Fb z g => ⟨z _ _ g.1, g.2.mono z⟩, fun i Fa Ha z g hi => ?_, fun Fa Ha z g => ?_, fun i Fa Ha x Hb z g hi y => ?_⟩⟩
  · have hi' : i < xs.length := by rw [g.2.length]; exact hi
    exact ⟨xs, xs[i], SqL.of (z _ _ g.1), List.getElem?_eq_getElem hi'⟩
  · exact ⟨xs, SqL.of (z _ _ g.1), by rw [g.2.length]; exact Nat.le_refl _⟩
  · obtain ⟨e2, y⟩ := y
    subst e2
    obtain ⟨d, hd, rd⟩ := g.2.get' (y xs (SqL.of (z _ _ g.1)))
    exact ⟨Fa, d, Ext.refl z, hd, rd⟩
theorem ei_range {n : Int} (h : EvD te δ (.int n)) (h1 : -(2 ^ 62) ≤ n) (h2 : n < 2 ^ 62) : EvI (iRng1 (tCons te tNil)) δ ((List.range n.toNat).map fun i => .int (i : Nat)) := fun σ F H s hl R q =>
  ea_cons h ea_nil σ F H s hl _ fun vs F1 H1 e1 r1 => by
    obtain ⟨v, rfl, r⟩ := rps1 r1
    refine ⟨n, by rw [r.int_of], h1, h2, q _ F1 H1 (fun _ => True) e1 True.intro ⟨fun _ _ _ _ => True.intro, fun i Fa Ha z g hi => ?_, fun Fa Ha z g => ?_, fun i Fa Ha x Hb z g hi y => ?_⟩⟩
    · rw [List.length_map, List.length_range] at hi
      exact hi
    · rw [List.length_map, List.length_range]
      exact Nat.le_refl _
    · rw [List.length_map, List.length_range] at hi
      obtain ⟨e2, y⟩ := y
      subst e2 y
      refine ⟨Fa, .int i, Ext.refl z, ?_, ?_⟩
      · rw [List.getElem?_map, List.getElem?_range hi]
        rfl
      · rw [Int.zero_add]
        exact .int _
/-- pairs in new tuples -/
def pairsD (xs ys : List D) : List D := List.zipWith (fun x y => .tuple [x, y]) xs ys
theorem pairsD_get {xs ys : List D} {i : Nat} {x y : D} (hx : xs[i]? = some x) (hy : ys[i]? = some y) : (pairsD xs ys)[i]? = some (.tuple [x, y]) := by
  unfold pairsD
  rw [List.getElem?_zipWith, hx, hy]
theorem pairsD_length (xs ys : List D) : (pairsD xs ys).length = min xs.length ys.length := List.length_zipWith
theorem ei_zip {xs ys : List D} (ha : EvD ta δ (.list xs)) (hb : EvD tb δ (.list ys)) : EvI (iZip K (tCons ta (tCons tb tNil))) δ (pairsD xs ys) := fun σ F H s hl R q =>
  ea_cons ha (ea_cons hb ea_nil) σ F H s hl _ fun vs F1 H1 e1 r1 => by
    obtain ⟨v, w, rfl, r2, r3⟩ := rps2 r1
    obtain ⟨a, vx, rfl, ea, ra⟩ := r2.lst_of
    obtain ⟨b, vy, rfl, eb, rb⟩ := r3.lst_of
    refine ⟨a, b, vx, vy, rfl, SqL.of (e1.s _ _ ea), SqL.of (e1.s _ _ eb), q _ F1 H1 (fun F => (F a = some (.lst vx) ∧ Rps F vx xs) ∧ F b = some (.lst vy) ∧ Rps F vy ys) e1 ⟨⟨ea, ra⟩, eb, rb⟩
      ⟨fun Fa Fb z g => ⟨⟨z _ _ g.1.1, g.1.2.mono z⟩, z _ _ g.2.1, g.2.2.mono z⟩, fun i Fa Ha z g hi => ?_, fun Fa Ha z g => ?_, fun i Fa Ha x Hb z g hi y => ?_⟩⟩
    · rw [pairsD_length] at hi
      have h1 : i < vx.length := by rw [g.1.2.length]; omega
      have h2 : i < vy.length := by rw [g.2.2.length]; omega
      exact ⟨vx, vy, vx[i], vy[i], SqL.of (z _ _ g.1.1), SqL.of (z _ _ g.2.1), List.getElem?_eq_getElem h1, List.getElem?_eq_getElem h2⟩
    · refine ⟨vx, vy, SqL.of (z _ _ g.1.1), SqL.of (z _ _ g.2.1), ?_⟩
      rw [pairsD_length, g.1.2.length, g.2.2.length]
      omega
    · obtain ⟨T, x1, y1, rfl, hT, rfl, f1, f2⟩ := y
      obtain ⟨d1, hd1, rd1⟩ := g.1.2.get' (f1 vx (SqL.of (z _ _ g.1.1)))
      obtain ⟨d2, hd2, rd2⟩ := g.2.2.get' (f2 vy (SqL.of (z _ _ g.2.1)))
      have m : Same Fa (upd Fa T (.tup [x1, y1])) := same_upd (same_none z hT)
      exact ⟨upd Fa T (.tup [x1, y1]), _, Ext.new z hT, pairsD_get hd1 hd2, .tup upd_same (.cons (rd1.mono m) (.cons (rd2.mono m) .nil))⟩
/-- indexes from 0 on -/
def countD (n : Nat) : List D := (List.range n).map fun i => .int (i : Nat)
theorem countD_get {n i : Nat} (h : i < n) : (countD n)[i]? = some (.int (i : Nat)) := by
  unfold countD
  rw [List.getElem?_map, List.getElem?_range h]
  rfl
theorem countD_length (n : Nat) : (countD n).length = n := by
  unfold countD
  rw [List.length_map, List.length_range]
theorem ei_enum {xs : List D} (ha : EvD ta δ (.list xs)) : EvI (iEnum K (tCons ta tNil)) δ (pairsD (countD xs.length) xs) := fun σ F H s hl R q =>
  ea_cons ha ea_nil σ F H s hl _ fun vs F1 H1 e1 r1 => by
    obtain ⟨v, rfl, r2⟩ := rps1 r1
    obtain ⟨a, vx, rfl, ea, ra⟩ := r2.lst_of
    have hlen : (pairsD (countD xs.length) xs).length = xs.length := by
      rw [pairsD_length, countD_length]
      omega
    refine ⟨a, vx, rfl, SqL.of (e1.s _ _ ea), q _ F1 H1 (fun F => F a = some (.lst vx) ∧ Rps F vx xs) e1 ⟨ea, ra⟩
      ⟨fun Fa Fb z g => ⟨z _ _ g.1, g.2.mono z⟩, fun i Fa Ha z g hi => ?_, fun Fa Ha z g => ?_, fun i Fa Ha x Hb z g hi y => ?_⟩⟩
    · rw [hlen] at hi
      have h1 : i < vx.length := by rw [g.2.length]; omega
      exact ⟨vx, vx[i], SqL.of (z _ _ g.1), List.getElem?_eq_getElem h1⟩
    · refine ⟨vx, SqL.of (z _ _ g.1), ?_⟩
      rw [hlen, g.2.length]
      exact Nat.le_refl _
    · rw [hlen] at hi
      obtain ⟨T, x1, rfl, hT, rfl, f1⟩ := y
      obtain ⟨d1, hd1, rd1⟩ := g.2.get' (f1 vx (SqL.of (z _ _ g.1)))
      have m : Same Fa (upd Fa T (.tup [.int (i : Nat), x1])) := same_upd (same_none z hT)
      exact ⟨upd Fa T (.tup [.int (i : Nat), x1]), _, Ext.new z hT, pairsD_get (countD_get hi) hd1, .tup upd_same (.cons (.int _) (.cons (rd1.mono m) .nil))⟩
end

/-! ### targets -/
def Off (js : List Nat) (σ σ' : L2.St) : Prop := σ'.length = σ.length ∧ ∀ k, k ∉ js → σ'[k]? = σ[k]?
/-- data d given to the target g turns the slots δ into δ', those at js alone -/
def AsgD (g : TG) (d : D) (js : List Nat) (δ δ' : DE) : Prop := ∀ (v : V) (σ : L2.St) (F H : Hp), Same F H → Sl σ F δ → Rp F v d → ∀ Q : L2.St → Hp → Prop,
  (∀ σ', Sl σ' F δ' → Off js σ σ' → Q σ' H) → g v σ H Q
def AsgsD (g : TGs) (ds : List D) (js : List Nat) (δ δ' : DE) : Prop := ∀ (vs : List V) (σ : L2.St) (F H : Hp), Same F H → Sl σ F δ → Rps F vs ds → ∀ Q : L2.St → Hp → Prop,
  (∀ σ', Sl σ' F δ' → Off js σ σ' → Q σ' H) → g vs σ H Q
section
variable {δ δ1 δ2 : DE} {K : PySem.W.Frag} {g : TG} {gs : TGs} {d : D} {ds : List D} {js ks : List Nat}
theorem as_name {i : Nat} : AsgD (gName i) d [i] δ (δ.set i (some d)) := fun v σ F H s hl r Q q => q _ (hl.set r i) ⟨List.length_set, fun k hk => by
  have : i ≠ k := fun z => hk (by simp [z])
  rw [List.getElem?_set_ne this]⟩
theorem as_nil : AsgsD gNil [] [] δ δ := fun vs σ F H s hl r Q q => by
  cases r
  exact ⟨rfl, q σ hl ⟨rfl, fun _ _ => rfl⟩⟩
theorem as_cons (h1 : AsgD g d js δ δ1) (h2 : AsgsD gs ds ks δ1 δ2) : AsgsD (gCons g gs) (d :: ds) (js ++ ks) δ δ2 := fun vs σ F H s hl r Q q => by
  cases r with
  | cons r rr =>
    exact ⟨_, _, rfl, h1 _ σ F H s hl r _ fun σ1 hl1 k1 => h2 _ σ1 F H s hl1 rr Q fun σ2 hl2 k2 => q σ2 hl2 ⟨k2.1.trans k1.1, fun k hk => by
      rw [k2.2 k fun z => hk (List.mem_append_right _ z), k1.2 k fun z => hk (List.mem_append_left _ z)]⟩⟩
theorem as_tup {n : Nat} (h : AsgsD gs ds js δ δ1) (hn : ds.length = n := by rfl) : AsgD (gTup K n gs) (.tuple ds) js δ δ1 := fun v σ F H s hl r Q q => by
  obtain ⟨a, xs, rfl, e, r⟩ := r.tup_of
  exact ⟨a, xs, rfl, SqT.of (s _ _ e), by rw [r.length]; exact hn, h _ σ F H s hl r Q q⟩
end

/-! ### comprehensions -/
theorem wipe_get (σ : L2.St) : ∀ (vs : List Nat) (k : Nat), (L2.wipe σ vs)[k]? = if k ∈ vs ∧ k < σ.length then some none else σ[k]?
  | [], k => by simp [L2.wipe]
  | v :: vs, k => by
    unfold L2.wipe
    by_cases h : v = k
    · subst h
      by_cases hl : v < σ.length
      · rw [List.getElem?_set_self (by rw [L2.wipe_length]; exact hl), if_pos ⟨List.mem_cons_self, hl⟩]
      · rw [List.getElem?_eq_none (by rw [List.length_set, L2.wipe_length]; omega), if_neg (fun z => hl z.2), List.getElem?_eq_none (by omega)]
    · rw [List.getElem?_set_ne h, wipe_get σ vs k]
      have e : (k ∈ v :: vs ∧ k < σ.length) ↔ (k ∈ vs ∧ k < σ.length) := by
        rw [List.mem_cons]
        exact ⟨fun z => ⟨z.1.resolve_left fun y => h y.symm, z.2⟩, fun z => ⟨.inr z.1, z.2⟩⟩
      by_cases hk : k ∈ vs ∧ k < σ.length
      · rw [if_pos hk, if_pos (e.mpr hk)]
      · rw [if_neg hk, if_neg (fun z => hk (e.mp z))]
theorem wipe_back {σ σ2 : L2.St} {vs js : List Nat} (hl : σ2.length = σ.length) (hj : ∀ j ∈ js, j ∈ vs) (h : ∀ k, k ∉ js → σ2[k]? = (L2.wipe σ vs)[k]?) : L2.wipe σ2 vs = L2.wipe σ vs := by
  refine List.ext_getElem? fun k => ?_
  rw [wipe_get, wipe_get, hl]
  by_cases hk : k ∈ vs ∧ k < σ.length
  · rw [if_pos hk, if_pos hk]
  · rw [if_neg hk, if_neg hk]
    by_cases hv : k ∈ vs
    · have : ¬ k < σ.length := fun z => hk ⟨hv, z⟩
      rw [List.getElem?_eq_none (by omega), List.getElem?_eq_none (by omega)]
    · rw [h k fun z => hv (hj k z), wipe_get, if_neg hk]
section
variable {δ : DE} {K : PySem.W.Frag} {wi : TI} {g : TG} {tt : TT} {te tk tv : TE} {vs : List Nat}
/-- [e for x in xs if c], by what the items stand for -/
theorem ev_lc {α : Type} (xs : List α) (em : α → D) (c : α → Bool) (f : α → D) (js : List Nat) (ex : α → DE) (hi : EvI wi δ (xs.map em)) (hz : xs.length < sizeLine) (hj : ∀ j ∈ js, j ∈ vs)
    (ha : ∀ x ∈ xs, AsgD g (em x) js (wipeD δ vs) (ex x)) (ht : ∀ x ∈ xs, EvT tt (ex x) (c x)) (he : ∀ x ∈ xs, c x = true → EvD te (ex x) (f x)) : EvD (tLc wi g tt te vs) δ (.list ((xs.filter c).map f)) := by
  intro σ F H s hl Q q
  refine hi σ F H s hl _ fun J F1 H1 G e1 g1 gv D hD => ?_
  have hlen : (xs.map em).length = xs.length := List.length_map _
  -- so far: acc stands at D, the view has grown
  refine ⟨fun i m H2 => m = xs.length - i ∧ i ≤ xs.length ∧ ∃ F2 acc, Same H1 H2 ∧ Same F1 F2 ∧ Same F2 H2 ∧ (∀ b, H1 b ≠ none → F2 b = F1 b) ∧ F2 D = none ∧ H2 D = some (.lst acc) ∧ Rps F2 acc (((xs.take i).filter c).map f),
    ⟨xs.length, by omega, Nat.zero_le _, F1, [], same_upd hD, Same.refl _, fun b o e => same_upd hD _ _ (e1.s _ _ e), fun _ _ => rfl, same_none e1.s hD, upd_same, .nil⟩, ?_⟩
  rintro i m H2 ⟨rfl, hi2, F2, acc, sH, sF, sFH, nn, fD, hDa, ra⟩
  have g2 : G F2 := gv.mono _ _ sF g1
  by_cases hlt : i < xs.length
  · refine .inr ⟨gv.go i F2 H2 sFH g2 (by rw [hlen]; exact hlt), fun H3 => ∃ F3 acc, Same H1 H3 ∧ Same F1 F3 ∧ Same F3 H3 ∧ (∀ b, H1 b ≠ none → F3 b = F1 b) ∧ F3 D = none ∧ H3 D = some (.lst acc) ∧ Rps F3 acc (((xs.take (i + 1)).filter c).map f),
      fun H3 ⟨F3, acc, w⟩ => ⟨xs.length - (i + 1), by omega, rfl, hlt, F3, acc, w⟩, fun x H3 y => ?_⟩
    obtain ⟨F3, d, e3, hd, rd⟩ := gv.yld i F2 H2 x H3 sFH g2 (by rw [hlen]; exact hlt) y
    have hx : xs[i]? = some xs[i] := List.getElem?_eq_getElem hlt
    have hm : xs[i] ∈ xs := List.getElem_mem hlt
    have hd' : d = em xs[i] := by
      rw [List.getElem?_map, hx] at hd
      exact (Option.some.inj hd).symm
    subst hd'
    have slw : Sl (L2.wipe σ vs) F3 (wipeD δ vs) := ((hl.mono e1.f).wipe vs).mono (sF.trans e3.f)
    refine ha _ hm x _ F3 H3 e3.s slw rd _ fun σ2 sl2 k2 => ⟨wipe_back (k2.1.trans (L2.wipe_length σ vs)) hj k2.2, ?_⟩
    refine ht _ hm σ2 F3 H3 e3.s sl2 _ fun F4 H4 e4 => ?_
    have take1 : xs.take (i + 1) = xs.take i ++ [xs[i]] := by
      rw [List.take_add_one, hx]
      rfl
    have e34 : Ext F2 H2 F4 H4 := e3.trans e4
    cases hc : c xs[i] with
    | false =>
      rw [if_neg Bool.false_ne_true]
      refine ⟨F4, acc, sH.trans e34.h, sF.trans e34.f, e4.s, fun b hb => (e34.n b (Same.some_of sH hb)).trans (nn b hb), ?_, e34.h _ _ hDa, ?_⟩
      · rw [e34.n D (by rw [hDa]; exact fun z => nomatch z)]
        exact fD
      · rw [take1, List.filter_append, List.filter_cons, if_neg (by rw [hc]; decide), List.filter_nil, List.append_nil]
        exact ra.mono e34.f
    | true =>
      rw [if_pos rfl]
      refine he _ hm hc σ2 F4 H4 e4.s (sl2.mono e4.f) _ fun w F5 H5 e5 r5 => ?_
      have e35 : Ext F2 H2 F5 H5 := e34.trans e5
      have f5D : F5 D = none := by
        rw [e35.n D (by rw [hDa]; exact fun z => nomatch z)]
        exact fD
      have accl : acc.length < sizeLine := by
        rw [ra.length, List.length_map]
        have h1 := List.length_filter_le c (xs.take i)
        rw [List.length_take] at h1
        omega
      refine ⟨acc, e35.h _ _ hDa, accl, F5, acc ++ [w], ?_, sF.trans e35.f, ?_, fun b hb => (e35.n b (Same.some_of sH hb)).trans (nn b hb), f5D, upd_same, ?_⟩
      · exact fun b o e => by
          have : b ≠ D := fun z => by rw [z, hD] at e; cases e
          rw [upd_ne this]
          exact e35.h _ _ (sH _ _ e)
      · exact fun b o e => by
          have : b ≠ D := fun z => by rw [z, f5D] at e; cases e
          rw [upd_ne this]
          exact e5.s _ _ e
      · rw [take1, List.filter_append, List.filter_cons, if_pos hc, List.filter_nil, List.map_append]
        exact (ra.mono e35.f).append (.cons r5 .nil)
  · have e : i = xs.length := by omega
    subst e
    refine .inl ⟨by have := gv.stop F2 H2 sFH g2; rw [hlen] at this; exact this, ?_⟩
    refine q (.ref D) (upd F2 D (.lst acc)) H2 (e1.trans (Ext.freeze hD sH sF sFH nn fD hDa)) (.lst upd_same ?_)
    rw [List.take_length] at ra
    exact ra.mono (same_upd fD)
end
end LD
/-! Dat3: dicts by comprehension, two fors in a comprehension, statements, calls, defs that only make new data. -/
namespace LD
open PySem PySem.Spec PyProof.Rows L2
theorem putK_new : ∀ (ks : List Int) (k : Int), k ∉ ks → putK (ks.map fun j => ((Sum.inl j : Key), V.bl true)) (Sum.inl k) (V.bl true) = (ks ++ [k]).map fun j => ((Sum.inl j : Key), V.bl true) := by
  intro ks k h
  unfold putK
  rw [if_neg ?_, List.map_append]
  · rfl
  · rw [List.any_map, Bool.not_eq_true, List.any_eq_false]
    intro j hj z
    have z' : (Sum.inl j : Key) = Sum.inl k := of_decide_eq_true z
    exact h (Sum.inl.inj z' ▸ hj)
section
variable {δ : DE} {K : PySem.W.Frag} {wi : TI} {g : TG} {tt : TT} {te tk tv : TE} {vs : List Nat}
/-- {k: True for k in ks} -/
theorem ev_dc (ks : List Int) (nd : ks.Nodup) {j : Nat} (hi : EvI wi δ (ks.map .int)) (hz : ks.length < sizeLine) (hj : j ∈ vs) (hjl : j < δ.length) : EvD (tDc wi (gName j) tYes (tVar j) (tC (.bl true)) vs) δ (.dict (ks.map fun k => (.int k, .bool true))) := by
  intro σ F H s hl Q q
  refine hi σ F H s hl _ fun J F1 H1 G e1 g1 gv A hA => ?_
  have hlen : (ks.map (PyData.int : Int → D)).length = ks.length := List.length_map _
  refine ⟨fun i m H2 => m = ks.length - i ∧ i ≤ ks.length ∧ ∃ F2, Same H1 H2 ∧ Same F1 F2 ∧ Same F2 H2 ∧ (∀ b, H1 b ≠ none → F2 b = F1 b) ∧ F2 A = none ∧ H2 A = some (.dK ((ks.take i).map fun k => ((Sum.inl k : Key), V.bl true))),
    ⟨ks.length, by omega, Nat.zero_le _, F1, same_upd hA, Same.refl _, fun b o e => same_upd hA _ _ (e1.s _ _ e), fun _ _ => rfl, same_none e1.s hA, upd_same⟩, ?_⟩
  rintro i m H2 ⟨rfl, hi2, F2, sH, sF, sFH, nn, fA, hAa⟩
  have g2 : G F2 := gv.mono _ _ sF g1
  by_cases hlt : i < ks.length
  · refine .inr ⟨gv.go i F2 H2 sFH g2 (by rw [hlen]; exact hlt), fun H3 => ∃ F3, Same H1 H3 ∧ Same F1 F3 ∧ Same F3 H3 ∧ (∀ b, H1 b ≠ none → F3 b = F1 b) ∧ F3 A = none ∧ H3 A = some (.dK ((ks.take (i + 1)).map fun k => ((Sum.inl k : Key), V.bl true))),
      fun H3 ⟨F3, w⟩ => ⟨ks.length - (i + 1), by omega, rfl, hlt, F3, w⟩, fun x H3 y => ?_⟩
    obtain ⟨F3, d, e3, hd, rd⟩ := gv.yld i F2 H2 x H3 sFH g2 (by rw [hlen]; exact hlt) y
    have hx : ks[i]? = some ks[i] := List.getElem?_eq_getElem hlt
    have hd' : d = .int ks[i] := by
      rw [List.getElem?_map, hx] at hd
      exact (Option.some.inj hd).symm
    subst hd'
    have ex := rd.int_of
    subst ex
    have take1 : ks.take (i + 1) = ks.take i ++ [ks[i]] := by
      rw [List.take_add_one, hx]
      rfl
    have hjs : j < (L2.wipe σ vs).length := by
      rw [L2.wipe_length, hl.1]
      exact hjl
    have nmem : ks[i] ∉ ks.take i := by
      intro z
      rw [← List.take_append_drop i ks, List.nodup_append] at nd
      have z2 : ks[i] ∈ ks.drop i := by
        rw [List.drop_eq_getElem_cons hlt]
        exact List.mem_cons_self
      exact nd.2.2 _ z _ z2 rfl
    refine ⟨wipe_back (js := [j]) (by rw [List.length_set, L2.wipe_length]) (fun k hk => by rw [List.mem_singleton.mp hk]; exact hj) fun k hk => ?_, ?_⟩
    · have : j ≠ k := fun z => hk (by simp [z])
      rw [List.getElem?_set_ne this]
    · dsimp only [tYes]
      rw [if_pos rfl]
      refine ⟨.int ks[i], List.getElem?_set_self hjs, ?_⟩
      refine ⟨_, Sum.inl ks[i], rfl, e3.h _ _ hAa, ?_, F3, ?_, sF.trans e3.f, ?_, fun b hb => (e3.n b (Same.some_of sH hb)).trans (nn b hb), ?_, ?_⟩
      · rw [List.length_map, List.length_take]
        omega
      · exact fun b o e => by
          have : b ≠ A := fun z => by rw [z, hA] at e; cases e
          rw [upd_ne this]
          exact e3.h _ _ (sH _ _ e)
      · have f3 : F3 A = none := by
          rw [e3.n A (by rw [hAa]; exact fun z => nomatch z)]
          exact fA
        exact fun b o e => by
          have : b ≠ A := fun z => by rw [z, f3] at e; cases e
          rw [upd_ne this]
          exact e3.s _ _ e
      · rw [e3.n A (by rw [hAa]; exact fun z => nomatch z)]
        exact fA
      · rw [upd_same, putK_new _ _ nmem, take1]
  · have e : i = ks.length := by omega
    subst e
    refine .inl ⟨by have := gv.stop F2 H2 sFH g2; rw [hlen] at this; exact this, ?_⟩
    rw [List.take_length] at hAa
    exact q (.ref A) (upd F2 A (.dK (ks.map fun k => ((Sum.inl k : Key), V.bl true)))) H2 (e1.trans (Ext.freeze hA sH sF sFH nn fA hAa)) (.dct upd_same)

/-- [e for x in xs for y in ys], the second walk may hang on x -/
theorem ev_lc2 {α β : Type} {wi1 : TI} {g1 : TG} {vs1 : List Nat} (xs : List α) (em : α → D) (ys : α → List β) (em1 : β → D) (f : α → β → D) (js js1 : List Nat) (ex : α → DE) (ex1 : α → β → DE)
    (hi : EvI wi δ (xs.map em)) (hz : (xs.flatMap ys).length < sizeLine) (hj : ∀ j ∈ js, j ∈ vs) (hj1 : ∀ j ∈ js1, j ∈ vs1)
    (ha : ∀ x ∈ xs, AsgD g (em x) js (wipeD δ vs) (ex x)) (hi1 : ∀ x ∈ xs, EvI wi1 (ex x) ((ys x).map em1)) (ha1 : ∀ x ∈ xs, ∀ y ∈ ys x, AsgD g1 (em1 y) js1 (wipeD (ex x) vs1) (ex1 x y))
    (he : ∀ x ∈ xs, ∀ y ∈ ys x, EvD te (ex1 x y) (f x y)) : EvD (tLc2 wi g tYes wi1 g1 tYes te vs vs1) δ (.list (xs.flatMap fun x => (ys x).map (f x))) := by
  intro σ F H s hl Q q
  refine hi σ F H s hl _ fun J F1 H1 G e1 g1 gv A hD => ?_
  have hlen : (xs.map em).length = xs.length := List.length_map _
  have hzl : ∀ (i : Nat) (l : List D), l.length ≤ ((xs.take (i + 1)).flatMap ys).length → l.length < sizeLine := fun i l h => by
    have h2 : ((xs.take (i + 1)).flatMap ys).length ≤ (xs.flatMap ys).length := by
      conv => rhs; rw [← List.take_append_drop (i + 1) xs]
      rw [List.flatMap_append, List.length_append]
      exact Nat.le_add_right _ _
    omega
  refine ⟨fun i m H2 => m = xs.length - i ∧ i ≤ xs.length ∧ ∃ F2 acc, Same H1 H2 ∧ Same F1 F2 ∧ Same F2 H2 ∧ (∀ b, H1 b ≠ none → F2 b = F1 b) ∧ F2 A = none ∧ H2 A = some (.lst acc) ∧ Rps F2 acc ((xs.take i).flatMap fun x => (ys x).map (f x)),
    ⟨xs.length, by omega, Nat.zero_le _, F1, [], same_upd hD, Same.refl _, fun b o e => same_upd hD _ _ (e1.s _ _ e), fun _ _ => rfl, same_none e1.s hD, upd_same, .nil⟩, ?_⟩
  rintro i m H2 ⟨rfl, hi2, F2, acc, sH, sF, sFH, nn, fD, hDa, ra⟩
  have g2 : G F2 := gv.mono _ _ sF g1
  by_cases hlt : i < xs.length
  · refine .inr ⟨gv.go i F2 H2 sFH g2 (by rw [hlen]; exact hlt), fun H3 => ∃ F3 acc, Same H1 H3 ∧ Same F1 F3 ∧ Same F3 H3 ∧ (∀ b, H1 b ≠ none → F3 b = F1 b) ∧ F3 A = none ∧ H3 A = some (.lst acc) ∧ Rps F3 acc ((xs.take (i + 1)).flatMap fun x => (ys x).map (f x)),
      fun H3 ⟨F3, acc, w⟩ => ⟨xs.length - (i + 1), by omega, rfl, hlt, F3, acc, w⟩, fun x H3 y => ?_⟩
    obtain ⟨F3, d, e3, hd, rd⟩ := gv.yld i F2 H2 x H3 sFH g2 (by rw [hlen]; exact hlt) y
    have hx : xs[i]? = some xs[i] := List.getElem?_eq_getElem hlt
    have hm : xs[i] ∈ xs := List.getElem_mem hlt
    have hd' : d = em xs[i] := by
      rw [List.getElem?_map, hx] at hd
      exact (Option.some.inj hd).symm
    subst hd'
    have slw : Sl (L2.wipe σ vs) F3 (wipeD δ vs) := ((hl.mono e1.f).wipe vs).mono (sF.trans e3.f)
    refine ha _ hm x _ F3 H3 e3.s slw rd _ fun σ2 sl2 k2 => ⟨wipe_back (k2.1.trans (L2.wipe_length σ vs)) hj k2.2, ?_⟩
    dsimp only [tYes]
    rw [if_pos rfl]
    have take1 : xs.take (i + 1) = xs.take i ++ [xs[i]] := by
      rw [List.take_add_one, hx]
      rfl
    refine hi1 _ hm σ2 F3 H3 e3.s sl2 _ fun J1 F4 H4 G1 e4 g4 gv1 => ?_
    have hlen1 : ((ys xs[i]).map em1).length = (ys xs[i]).length := List.length_map _
    have e34 : Ext F2 H2 F4 H4 := e3.trans e4
    -- within: what the inner walk has given so far
    refine ⟨fun j k H5 => k = (ys xs[i]).length - j ∧ j ≤ (ys xs[i]).length ∧ ∃ F5 acc, Same H1 H5 ∧ Same F4 F5 ∧ Same F5 H5 ∧ (∀ b, H1 b ≠ none → F5 b = F1 b) ∧ F5 A = none ∧ H5 A = some (.lst acc) ∧
      Rps F5 acc (((xs.take i).flatMap fun x => (ys x).map (f x)) ++ ((ys xs[i]).take j).map (f xs[i])),
      ⟨(ys xs[i]).length, by omega, Nat.zero_le _, F4, acc, sH.trans e34.h, Same.refl _, e4.s, fun b hb => (e34.n b (Same.some_of sH hb)).trans (nn b hb), ?_, e34.h _ _ hDa, ?_⟩, ?_⟩
    · rw [e34.n A (by rw [hDa]; exact fun z => nomatch z)]
      exact fD
    · rw [List.take_zero, List.map_nil, List.append_nil]
      exact ra.mono e34.f
    rintro j k H5 ⟨rfl, hj2, F5, acc5, sH5, sF5, sFH5, nn5, fD5, hDa5, ra5⟩
    have g5 : G1 F5 := gv1.mono _ _ sF5 g4
    by_cases hlt1 : j < (ys xs[i]).length
    · refine .inr ⟨gv1.go j F5 H5 sFH5 g5 (by rw [hlen1]; exact hlt1), fun H6 => ∃ F6 acc, Same H1 H6 ∧ Same F4 F6 ∧ Same F6 H6 ∧ (∀ b, H1 b ≠ none → F6 b = F1 b) ∧ F6 A = none ∧ H6 A = some (.lst acc) ∧
        Rps F6 acc (((xs.take i).flatMap fun x => (ys x).map (f x)) ++ ((ys xs[i]).take (j + 1)).map (f xs[i])), fun H6 ⟨F6, acc, w⟩ => ⟨(ys xs[i]).length - (j + 1), by omega, rfl, hlt1, F6, acc, w⟩, fun x1 H6 y1 => ?_⟩
      obtain ⟨F6, d1, e6, hd1, rd1⟩ := gv1.yld j F5 H5 x1 H6 sFH5 g5 (by rw [hlen1]; exact hlt1) y1
      have hx1 : (ys xs[i])[j]? = some (ys xs[i])[j] := List.getElem?_eq_getElem hlt1
      have hm1 : (ys xs[i])[j] ∈ ys xs[i] := List.getElem_mem hlt1
      have hd1' : d1 = em1 (ys xs[i])[j] := by
        rw [List.getElem?_map, hx1] at hd1
        exact (Option.some.inj hd1).symm
      subst hd1'
      have slw1 : Sl (L2.wipe σ2 vs1) F6 (wipeD (ex xs[i]) vs1) := ((sl2.wipe vs1).mono e4.f).mono (sF5.trans e6.f)
      refine ha1 _ hm _ hm1 x1 _ F6 H6 e6.s slw1 rd1 _ fun σ3 sl3 k3 => ⟨wipe_back (k3.1.trans (L2.wipe_length σ2 vs1)) hj1 k3.2, ?_⟩
      dsimp only [tYes]
      rw [if_pos rfl]
      refine he _ hm _ hm1 σ3 F6 H6 e6.s sl3 _ fun w F7 H7 e7 r7 => ?_
      have e57 : Ext F5 H5 F7 H7 := e6.trans e7
      have f7D : F7 A = none := by
        rw [e57.n A (by rw [hDa5]; exact fun z => nomatch z)]
        exact fD5
      have accl : acc5.length < sizeLine := by
        refine hzl i (((xs.take i).flatMap fun x => (ys x).map (f x)) ++ ((ys xs[i]).take j).map (f xs[i])) ?_ |> fun z => by rw [ra5.length]; exact z
        rw [take1, List.flatMap_append, List.length_append, List.length_append, List.length_map, List.length_take]
        have q1 : ((xs.take i).flatMap fun x => (ys x).map (f x)).length = ((xs.take i).flatMap ys).length := by
          rw [List.length_flatMap, List.length_flatMap]
          congr 1
          exact List.map_congr_left fun a _ => List.length_map _
        have q2 : ([xs[i]].flatMap ys).length = (ys xs[i]).length := by simp
        omega
      refine ⟨acc5, e57.h _ _ hDa5, accl, F7, acc5 ++ [w], ?_, sF5.trans e57.f, ?_, fun b hb => (e57.n b (Same.some_of sH5 hb)).trans (nn5 b hb), f7D, upd_same, ?_⟩
      · exact fun b o e => by
          have : b ≠ A := fun z => by rw [z, hD] at e; cases e
          rw [upd_ne this]
          exact e57.h _ _ (sH5 _ _ e)
      · exact fun b o e => by
          have : b ≠ A := fun z => by rw [z, f7D] at e; cases e
          rw [upd_ne this]
          exact e7.s _ _ e
      · have t1 : (ys xs[i]).take (j + 1) = (ys xs[i]).take j ++ [(ys xs[i])[j]] := by
          rw [List.take_add_one, hx1]
          rfl
        rw [t1, List.map_append, ← List.append_assoc]
        exact (ra5.mono e57.f).append (.cons r7 .nil)
    · have e : j = (ys xs[i]).length := by omega
      subst e
      refine .inl ⟨by have := gv1.stop F5 H5 sFH5 g5; rw [hlen1] at this; exact this, F5, acc5, sH5, (sF.trans e34.f).trans sF5, sFH5, nn5, fD5, hDa5, ?_⟩
      rw [take1, List.flatMap_append]
      rw [List.take_length] at ra5
      simpa using ra5
  · have e : i = xs.length := by omega
    subst e
    refine .inl ⟨by have := gv.stop F2 H2 sFH g2; rw [hlen] at this; exact this, ?_⟩
    refine q (.ref A) (upd F2 A (.lst acc)) H2 (e1.trans (Ext.freeze hD sH sF sFH nn fD hDa)) (.lst upd_same ?_)
    rw [List.take_length] at ra
    exact ra.mono (same_upd fD)
end

/-! ### statements -/
/-- from the slots δ the statement's reading leads on to N, breaks to B, continues to C, returns to R, making new data alone -/
def W (t : TS) (δ : DE) (N B C : DE → Prop) (R : D → Prop) : Prop := ∀ (σ : L2.St) (F H : Hp), Same F H → Sl σ F δ → ∀ E : Ends,
  (∀ σ' F' H' δ', Ext F H F' H' → Sl σ' F' δ' → N δ' → E.nx σ' H') → (∀ σ' F' H' δ', Ext F H F' H' → Sl σ' F' δ' → B δ' → E.bk σ' H') → (∀ σ' F' H' δ', Ext F H F' H' → Sl σ' F' δ' → C δ' → E.ct σ' H') →
  (∀ v F' H' d, Ext F H F' H' → Rp F' v d → R d → E.rt v H') → t E σ H
abbrev no : DE → Prop := fun _ => False
section
variable {δ δ1 : DE} {N B C M : DE → Prop} {R : D → Prop} {t u : TS} {te : TE} {c : TT} {d : D} {g : TG} {js : List Nat}
theorem W.imp {N' B' C' : DE → Prop} {R' : D → Prop} (h : W t δ N B C R) (hn : ∀ δ, N δ → N' δ) (hb : ∀ δ, B δ → B' δ) (hc : ∀ δ, C δ → C' δ) (hr : ∀ d, R d → R' d) : W t δ N' B' C' R' := fun σ F H s hl E n b c r =>
  h σ F H s hl E (fun σ' F' H' δ' e l x => n σ' F' H' δ' e l (hn _ x)) (fun σ' F' H' δ' e l x => b σ' F' H' δ' e l (hb _ x)) (fun σ' F' H' δ' e l x => c σ' F' H' δ' e l (hc _ x)) fun v F' H' d e p x => r v F' H' d e p (hr _ x)
theorem w_next (h : N δ) : W tNext δ N B C R := fun σ F H s hl E n b c r => n σ F H δ (Ext.refl s) hl h
theorem w_seq (h : W t δ M B C R) (k : ∀ δ', M δ' → W u δ' N B C R) : W (tSeq t u) δ N B C R := fun σ F H s hl E n b c r =>
  h σ F H s hl { E with nx := u E } (fun σ' F' H' δ' e l m => k δ' m σ' F' H' e.s l E (fun σ2 F2 H2 δ2 e2 l2 x => n σ2 F2 H2 δ2 (e.trans e2) l2 x) (fun σ2 F2 H2 δ2 e2 l2 x => b σ2 F2 H2 δ2 (e.trans e2) l2 x)
    (fun σ2 F2 H2 δ2 e2 l2 x => c σ2 F2 H2 δ2 (e.trans e2) l2 x) fun v F2 H2 d e2 p x => r v F2 H2 d (e.trans e2) p x) b c r
theorem w_asg (h : EvD te δ d) (ha : AsgD g d js δ δ1) (hn : N δ1) : W (tAsg te g) δ N B C R := fun σ F H s hl E n b c r =>
  h σ F H s hl _ fun v F1 H1 e1 r1 => ha v σ F1 H1 e1.s (hl.mono e1.f) r1 _ fun σ' sl _ => n σ' F1 H1 δ1 e1 sl hn
theorem w_set {i : Nat} (h : EvD te δ d) (hn : N (δ.set i (some d))) : W (tAsg te (gName i)) δ N B C R := w_asg h as_name hn
theorem w_par {i j : Nat} {ta : TA} {d1 d2 : D} (h : EvA ta δ [d1, d2]) (hn : N ((δ.set i (some d1)).set j (some d2))) : W (tPar i j ta) δ N B C R := fun σ F H s hl E n b c r =>
  h σ F H s hl _ fun vs F1 H1 e1 r1 => by
    obtain ⟨v, w, rfl, r2, r3⟩ := rps2 r1
    exact ⟨v, w, rfl, n _ F1 H1 _ e1 (((hl.mono e1.f).set r2 i).set r3 j) hn⟩
theorem w_ret (h : EvD te δ d) (hr : R d) : W (tRet te) δ N B C R := fun σ F H s hl E n b c r => h σ F H s hl _ fun v F1 H1 e1 r1 => r v F1 H1 d e1 r1 hr
theorem w_if {b : Bool} (h : EvT c δ b) (h1 : b = true → W t δ N B C R) (h2 : b = false → W u δ N B C R) : W (tIfS c t u) δ N B C R := fun σ F H s hl E n bk ct r =>
  h σ F H s hl _ fun F1 H1 e1 => by
    have back : ∀ {t : TS}, W t δ N B C R → t E σ H1 := fun w => w σ F1 H1 e1.s (hl.mono e1.f) E (fun σ2 F2 H2 δ2 e2 l2 x => n σ2 F2 H2 δ2 (e1.trans e2) l2 x) (fun σ2 F2 H2 δ2 e2 l2 x => bk σ2 F2 H2 δ2 (e1.trans e2) l2 x)
      (fun σ2 F2 H2 δ2 e2 l2 x => ct σ2 F2 H2 δ2 (e1.trans e2) l2 x) fun v F2 H2 d e2 p x => r v F2 H2 d (e1.trans e2) p x
    cases b with
    | true =>
      rw [if_pos rfl]
      exact back (h1 rfl)
    | false =>
      rw [if_neg Bool.false_ne_true]
      exact back (h2 rfl)
theorem w_drop (h : EvD te δ d) (hn : N δ) : W (tDrop te) δ N B C R := fun σ F H s hl E n b c r => h σ F H s hl _ fun v F1 H1 e1 r1 => n σ F1 H1 δ e1 (hl.mono e1.f) hn
theorem w_aug {i : Nat} {f : Int → Int → Int} {a b : Int} (hx : δ[i]? = some (some (.int a))) (h : EvD te δ (.int b)) (hn : N (δ.set i (some (.int (f a b))))) : W (tAug i te (ipI f)) δ N B C R := fun σ F H s hl E n bk ct r => by
  obtain ⟨x, h1, h2⟩ := hl.2 i _ hx
  refine ⟨x, h1, h σ F H s hl _ fun v F1 H1 e1 r1 => ⟨a, b, h2.int_of, r1.int_of, n _ F1 H1 _ e1 ((hl.mono e1.f).set (.int _) i) hn⟩⟩
theorem w_while (I : Nat → DE → Prop) (m0 : Nat) (h0 : I m0 δ)
    (hs : ∀ m δ, I m δ → ∃ b, EvT c δ b ∧ (b = true → W t δ (fun δ' => ∃ m', m' < m ∧ I m' δ') N (fun δ' => ∃ m', m' < m ∧ I m' δ') R) ∧ (b = false → N δ)) : W (tWhile c t) δ N B C R := fun σ F H s hl E n bk ct r => by
  refine ⟨fun m σ' H' => ∃ δ' F', Ext F H F' H' ∧ Sl σ' F' δ' ∧ I m δ', ⟨m0, δ, F, Ext.refl s, hl, h0⟩, ?_⟩
  rintro m σ' H' ⟨δ', F', e', l', i'⟩
  obtain ⟨b, hc, ht, hf⟩ := hs m δ' i'
  refine hc σ' F' H' e'.s l' _ fun F1 H1 e1 => ?_
  cases b with
  | true =>
    rw [if_pos rfl]
    refine ⟨fun σ2 H2 => ∃ δ2 F2, Ext F H F2 H2 ∧ Sl σ2 F2 δ2 ∧ ∃ m', m' < m ∧ I m' δ2, fun σ2 H2 ⟨δ2, F2, e2, l2, m', hm, i2⟩ => ⟨m', hm, δ2, F2, e2, l2, i2⟩, ?_⟩
    have e01 := e'.trans e1
    exact ht rfl σ' F1 H1 e1.s (l'.mono e1.f) _ (fun σ2 F2 H2 δ2 e2 l2 x => ⟨δ2, F2, e01.trans e2, l2, x⟩) (fun σ2 F2 H2 δ2 e2 l2 x => n σ2 F2 H2 δ2 (e01.trans e2) l2 x) (fun σ2 F2 H2 δ2 e2 l2 x => ⟨δ2, F2, e01.trans e2, l2, x⟩)
      fun v F2 H2 d e2 p x => r v F2 H2 d (e01.trans e2) p x
  | false =>
    rw [if_neg Bool.false_ne_true]
    exact n σ' F1 H1 δ' (e'.trans e1) (l'.mono e1.f) (hf rfl)
theorem w_for {wi : TI} {ds : List D} (I : Nat → DE → Prop) (hi : EvI wi δ ds) (h0 : I 0 δ) (hs : ∀ i δ d, ds[i]? = some d → I i δ → ∃ js δ', AsgD g d js δ δ' ∧ W t δ' (I (i + 1)) N (I (i + 1)) R) (hd : ∀ δ, I ds.length δ → N δ) :
    W (tFor wi g t) δ N B C R := fun σ F H s hl E n bk ct r => by
  refine hi σ F H s hl _ fun J F1 H1 G e1 g1 gv => ?_
  refine ⟨fun i m σ' H' => m = ds.length - i ∧ i ≤ ds.length ∧ ∃ δ' F', Ext F1 H1 F' H' ∧ Sl σ' F' δ' ∧ I i δ', ⟨ds.length, by omega, Nat.zero_le _, δ, F1, Ext.refl e1.s, hl.mono e1.f, h0⟩, ?_⟩
  rintro i m σ' H' ⟨rfl, hi2, δ', F', e', l', i'⟩
  have g' : G F' := gv.mono _ _ e'.f g1
  by_cases hlt : i < ds.length
  · refine .inr ⟨gv.go i F' H' e'.s g' hlt, fun σ2 H2 => ∃ δ2 F2, Ext F1 H1 F2 H2 ∧ Sl σ2 F2 δ2 ∧ I (i + 1) δ2, fun σ2 H2 ⟨δ2, F2, w⟩ => ⟨ds.length - (i + 1), by omega, rfl, hlt, δ2, F2, w⟩, fun x H2 y => ?_⟩
    obtain ⟨F2, d, e2, hd2, rd⟩ := gv.yld i F' H' x H2 e'.s g' hlt y
    obtain ⟨js, δ3, as, w3⟩ := hs i δ' d hd2 i'
    have e02 := e'.trans e2
    refine as x σ' F2 H2 e2.s (l'.mono e2.f) rd _ fun σ3 l3 _ => ?_
    exact w3 σ3 F2 H2 e2.s l3 _ (fun σ4 F4 H4 δ4 e4 l4 x => ⟨δ4, F4, e02.trans e4, l4, x⟩) (fun σ4 F4 H4 δ4 e4 l4 x => n σ4 F4 H4 δ4 (e1.trans (e02.trans e4)) l4 x) (fun σ4 F4 H4 δ4 e4 l4 x => ⟨δ4, F4, e02.trans e4, l4, x⟩)
      fun v F4 H4 d e4 p x => r v F4 H4 d (e1.trans (e02.trans e4)) p x
  · have e : i = ds.length := by omega
    subst e
    exact .inl ⟨gv.stop F' H' e'.s g', n σ' F' H' δ' (e1.trans e') l' (hd δ' i')⟩
end
/-! something behind -/
section
variable {δ δ1 : DE} {N B C : DE → Prop} {R : D → Prop} {t u z : TS} {te : TE} {c : TT} {d : D} {g : TG} {js : List Nat}
theorem x_asg (h : EvD te δ d) (ha : AsgD g d js δ δ1) (k : W z δ1 N B C R) : W (tSeq (tAsg te g) z) δ N B C R := w_seq (M := fun δ' => δ' = δ1) (w_asg h ha rfl) fun δ' e => by subst e; exact k
theorem x_set {i : Nat} (h : EvD te δ d) (k : W z (δ.set i (some d)) N B C R) : W (tSeq (tAsg te (gName i)) z) δ N B C R := x_asg h as_name k
theorem x_par {i j : Nat} {ta : TA} {d1 d2 : D} (h : EvA ta δ [d1, d2]) (k : W z ((δ.set i (some d1)).set j (some d2)) N B C R) : W (tSeq (tPar i j ta) z) δ N B C R := w_seq (M := fun δ' => δ' = _) (w_par h rfl) fun δ' e => by subst e; exact k
theorem x_aug {i : Nat} {f : Int → Int → Int} {a b : Int} (hx : δ[i]? = some (some (.int a))) (h : EvD te δ (.int b)) (k : W z (δ.set i (some (.int (f a b)))) N B C R) : W (tSeq (tAug i te (ipI f)) z) δ N B C R := w_seq (M := fun δ' => δ' = _) (w_aug hx h rfl) fun δ' e => by subst e; exact k
theorem x_drop (h : EvD te δ d) (k : W z δ N B C R) : W (tSeq (tDrop te) z) δ N B C R := w_seq (M := fun δ' => δ' = δ) (w_drop h rfl) fun δ' e => by subst e; exact k
/-- an if that leaves in its suite when true -/
theorem x_if {b : Bool} (h : EvT c δ b) (h1 : b = true → W t δ no B C R) (h2 : b = false → W z δ N B C R) : W (tSeq (tIfS c t tNext) z) δ N B C R :=
  w_seq (M := fun δ' => δ' = δ ∧ b = false) (w_if h (fun e => (h1 e).imp (fun _ x => x.elim) (fun _ x => x) (fun _ x => x) fun _ x => x) fun e => w_next ⟨rfl, e⟩) fun δ' e => by obtain ⟨e1, e2⟩ := e; subst e1; exact h2 e2
end

/-! ### calls and defs -/
/-- a def that makes new data alone: S tells the result from the arguments -/
def spR (S : List D → D → Prop) : Sp := fun vs H Q _ => ∃ ds r F, Same F H ∧ Rps F vs ds ∧ S ds r ∧ ∀ v F' H', Ext F H F' H' → Rp F' v r → Q v H'
theorem ev_call {δ : DE} {ta : TA} {ds : List D} {S : List D → D → Prop} {r : D} {E : XK} (h : EvA ta δ ds) (hs : S ds r) : EvD (tCall (spR S) [] E ta) δ r := fun σ F H s hl Q q =>
  h σ F H s hl _ fun vs F1 H1 e1 r1 => by
    show spR S (vs ++ []) H1 Q E
    rw [List.append_nil]
    exact ⟨ds, r, F1, e1.s, r1, hs, fun v F' H' e' r' => q v F' H' (e1.trans e') r'⟩
/-- the slots at a def's start -/
def startD (n : Nat) (ds : List D) : DE := ds.map some ++ List.replicate (n - ds.length) none
theorem sl_start {N : List Str} {vs : List V} {ds : List D} {F : Hp} (r : Rps F vs ds) : Sl (L2.start N vs) F (startD N.length ds) := by
  refine ⟨by unfold L2.start startD; rw [List.length_append, List.length_append, List.length_map, List.length_map, List.length_replicate, List.length_replicate, r.length], fun i d h => ?_⟩
  unfold startD at h
  by_cases hi : i < ds.length
  · rw [List.getElem?_append_left (by rw [List.length_map]; exact hi), List.getElem?_map] at h
    cases e : ds[i]? with
    | none => rw [e] at h; cases h
    | some x =>
      rw [e] at h
      have h' : x = d := by simpa using h
      subst h'
      obtain ⟨v, h1, h2⟩ := r.get e
      refine ⟨v, ?_, h2⟩
      unfold L2.start
      rw [List.getElem?_append_left (by rw [List.length_map, r.length]; exact hi), List.getElem?_map, h1]
      rfl
  · rw [List.getElem?_append_right (by rw [List.length_map]; omega), List.getElem?_replicate] at h
    split at h <;> cases h
/-- a def's body, read -/
theorem body_of {t : TS} {N : List Str} {vs : List V} {H : Hp} {Q : VK} {E : XK} {S : List D → D → Prop} (h : spR S vs H Q E)
    (w : ∀ ds r, S ds r → W t (startD N.length ds) (fun _ => r = .none) no no (fun d => d = r)) : t { nx := fun _ H' => Q .non H', rt := Q } (L2.start N vs) H := by
  obtain ⟨ds, r, F, s, rs, hs, q⟩ := h
  refine w ds r hs (L2.start N vs) F H s (sl_start rs) _ (fun σ' F' H' δ' e l x => ?_) (fun _ _ _ _ _ _ x => x.elim) (fun _ _ _ _ _ _ x => x.elim) fun v F' H' d e p x => ?_
  · exact q .non F' H' e (by rw [x]; exact .non)
  · rw [x] at p
    exact q v F' H' e p
/-- a def that stands under a global name and keeps its promise -/
def Callee (P : Program) (w : World) (K : PySem.W.Frag) (mg : Str → Option Value) (base : Heap) (k : Nat) (x : Str) (ps : List Str) (sp : Sp) : Prop :=
  ∃ f fd, mg x = some (.ref f) ∧ PySem.W.keepIn K (.ref f) = true ∧ Binds K fd ps [] ∧ FnOk P w K mg base CX0 k f fd ps sp
theorem Callee.mono {P : Program} {w : World} {K : PySem.W.Frag} {mg : Str → Option Value} {base : Heap} {j k : Nat} {x : Str} {ps : List Str} {sp : Sp} (c : Callee P w K mg base j x ps sp) (h : j ≤ k) : Callee P w K mg base k x ps sp := by
  obtain ⟨f, fd, a, b, c, d⟩ := c
  exact ⟨f, fd, a, b, c, d.mono h⟩
theorem pe_callC {X : Cx} {k : Nat} {ps : List Str} {sp : Sp} {x : Str} {p pos : Pos} {e : Expr} {es : List Expr} {t : TA} (c : Callee X.prog X.w X.K X.mg X.base k x ps sp) (hr : Room k X.A) (hg : Gl X x) (ha : PA X (e :: es) t)
    (hdb : (x == ("__debug__" : Str)) = false := by decide) (he : starEach (e :: es) X.env = (false, eval e X.env) :: starEach es X.env := by rfl) (hpl : (backTo pos (starEach es X.env)).any (·.1) = false := by rfl) :
    PE X (.Call (.Name x p) (e :: es) [] pos) (tCall sp [] E0 t) := by
  obtain ⟨f, fd, hm, hk, hb, hf⟩ := c
  exact pe_call hf hr hg hm hk hb .nil pass0 ha hdb he hpl
/-- a def of the text under the global name x (its own name y) -/
def Stands (K : PySem.W.Frag) (mg : Str → Option Value) (x y : Str) (st : Stmt) (ps : List Str) : Prop := ∃ f fd, mg x = some (.ref f) ∧ Fun K y y st f fd ∧ Binds K fd ps []
theorem callee_of {P : Program} {w : World} {K : PySem.W.Frag} {mg : Str → Option Value} {base : Heap} {k : Nat} {x y : Str} {st : Stmt} {N ps : List Str} {S : List D → D → Prop} {t : TS} (h : Stands K mg x y st ps) (sc : FnScope N ps (defScope st)) (len : ∀ ds r, S ds r → ds.length = ps.length)
    (hd : ∀ (f : Addr) (cdv : Value) (A : Around) (outer : List Env) (s : Shared) (H : Hp) (E : XK), Room k (A.deeper (envOfC y (defScope st) s.heap.objs.size f cdv)) → PSs (cxOf CX0 P w K mg base N y (defScope st) f cdv A outer s H E).nox (defBody st) t)
    (wt : ∀ ds r, S ds r → W t (startD N.length ds) (fun _ => r = .none) no no (fun d => d = r)) : Callee P w K mg base (k + 1) x ps (spR S) := by
  obtain ⟨f, fd, hm, F, hb⟩ := h
  refine ⟨f, fd, hm, F.kp, hb, F.ok sc (fun vs H Q E h => ?_) fun cdv A outer s H vs Q E hr h => ⟨t, hd f cdv A outer s H E hr, body_of h wt⟩⟩
  obtain ⟨ds, r, F', _, rs, hs, _⟩ := h
  rw [rs.length]
  exact len ds r hs
end LD
/-! EnZ: for .. in enumerate(zip(xs, ys)): the zip's own tuple is not given back, so the zip stands with a held tuple from its second turn on. -/
namespace LD
open PySem PySem.Spec PyProof.Rows L2

/-- a zip whose first two fields may be anything that ownedTupleIsFree reads -/
abbrev ZipG (h : Heap) (z TI TO : Addr) (f0 : Value) (f1 : Bool) : Prop :=
  h.get? z = some { cls := .type "zip", dict := none, data := .fields #[f0, .bool f1, .bool false, .ref TI, .ref TO], slots := #[] }
def Held (f0 : Value) : Prop := f0 = .none ∨ ∃ n : Nat, f0 = rawInt n
section
variable {prog : Program} {w : World} {A : Around} {E : Value → Shared → Prop} {s : Shared} {z TI TO i1 i2 l1 l2 : Addr} {f0 : Value} {f1 : Bool}
theorem alive_any {a : Addr} {Q : Option Obj → Shared → Prop} (h : ∀ x, Q x s) : wpAny (model prog w) A (loadIfAlive a) Q E s := by
  have h' : Q (s.heap.get? a) s := h _
  exact fun _ _ _ => h'
theorem own_free {Q : Bool → Shared → Prop} (hz : ZipG s.heap z TI TO f0 f1) (hf : Held f0) (ht : Q true s)
    (hb : ∀ h', ZipG h' z TI TO f0 true → Heap.SameBut z s.heap h' → Q false { s with heap := h' }) : wpAny (model prog w) A (Builtin.SmallTypes.ownedTupleIsFree (.ref z)) Q E s := by
  unfold Builtin.SmallTypes.ownedTupleIsFree
  refine wpAny_bind (wpAny_field hz rfl (x := f0) rfl ?_)
  rcases hf with e | ⟨n, e⟩
  · subst e
    exact wpAny_pure ht
  · subst e
    refine wpAny_bind (alive_any fun x => ?_)
    cases x with
    | none => exact wpAny_pure ht
    | some o =>
      refine wpAny_bind (wpAny_field hz rfl (x := .bool f1) rfl ?_)
      cases f1 with
      | true =>
        have e1 : Heap.SameBut z s.heap s.heap := ⟨rfl, fun _ _ => rfl⟩
        exact wpAny_pure (hb s.heap hz e1)
      | false =>
        refine wpAny_bind (wpAny_setField_rec hz (by simp) fun h1 z1 s1 => ?_)
        exact wpAny_pure (hb h1 z1 s1)

/-- the zip's next where both have an item: a new pair at the heap's end -/
theorem zip_gen_item {k1 k2 : Nat} {xs ys : Array Value} {x y a b : Value} {Q : Value → Shared → Prop} (D : ZipApart z TI TO i1 i2 l1 l2)
    (hz : ZipG s.heap z TI TO f0 f1) (hf : Held f0) (hTI : IsPair s.heap TI (.ref i1) (.ref i2)) (hTO : IsPair s.heap TO a b)
    (h1 : s.heap.IsListIter i1 l1 k1) (h2 : s.heap.IsListIter i2 l2 k2) (hl1 : s.heap.IsList l1 xs) (hl2 : s.heap.IsList l2 ys) (hx : xs[k1]? = some x) (hy : ys[k2]? = some y)
    (hQ : ∀ h' g0 g1 a' b', ZipG h' z TI TO g0 g1 → Held g0 → IsPair h' TO a' b' → h'.IsListIter i1 l1 (k1 + 1) → h'.IsListIter i2 l2 (k2 + 1) → IsPair h' s.heap.objs.size x y → h'.objs.size = s.heap.objs.size + 1 →
      (∀ c o, c ≠ z → c ≠ TO → c ≠ i1 → c ≠ i2 → s.heap.get? c = some o → h'.get? c = some o) → Q (.ref s.heap.objs.size) { s with heap := h' }) :
    wpAny (model prog w) A (Builtin.«zip.__next__» ⟨[.ref z], []⟩) (fun fin s' => ∃ v, fin = .done (.ret v) ∧ Q v s') E s := by
  show wpAny _ _ (field (.ref z) 2 >>= _) _ _ _
  refine wpAny_bind (wpAny_field hz rfl (x := .bool false) rfl ?_)
  show wpAny _ _ (field (.ref z) 3 >>= _) _ _ _
  refine wpAny_bind (wpAny_field hz rfl (x := .ref TI) rfl ?_)
  refine wpAny_bind (wpAny_seqItems hTI rfl ?_)
  show wpAny _ _ (Builtin.SmallTypes.ownedTupleIsFree (.ref z) >>= _) _ _ _
  refine wpAny_bind (own_free hz hf ?_ fun h₁ hz₁ hs₁ => ?_)
  · -- the owned tuple is free
    simp only [if_true]
    refine wpAny_bind (wpAny_rule ?_)
    refine wpAny_bind (wpAny_field hz rfl (x := .ref TO) rfl ?_)
    refine wpAny_bind (wpAny_setField_rec hz (by simp) fun h₁ hz₁ hs₁ => ?_)
    replace hz₁ : ZipG h₁ z TI TO .ellipsis f1 := hz₁
    refine wpAny_bind ?_
    simp only [List.zipIdx_cons, List.zipIdx_nil, List.forIn_cons, List.forIn_nil]
    refine wpAny_bind (wpAny_bind (wpAny_onRaise ?_))
    show wpAny _ _ (Builtin.SmallTypes.nextOf (.ref i1) >>= _) _ _ _
    refine wpAny_bind (wpAny_nextOf_list_item (h1.extBut hs₁.extBut D.i1z) (hl1.extBut hs₁.extBut D.l1z) hx fun h₂ g1 hs₂ => wpAny_pure ?_)
    have t2 : IsPair h₂ TO a b := hs₂.extBut _ _ D.TOi1 (hs₁.extBut _ _ D.TOz hTO)
    refine wpAny_bind (wpAny_seqItems t2 rfl ?_)
    refine wpAny_bind (wpAny_updateSeq_pair t2 fun h₃ t3 hs₃ => ?_)
    replace t3 : IsPair h₃ TO x b := t3
    refine wpAny_bind (wpAny_letGo (wpAny_pure ?_))
    refine wpAny_bind (wpAny_bind (wpAny_onRaise ?_))
    show wpAny _ _ (Builtin.SmallTypes.nextOf (.ref i2) >>= _) _ _ _
    have j2 := ((h2.extBut hs₁.extBut D.i2z).extBut hs₂.extBut D.i12.symm).extBut hs₃.extBut D.TOi2.symm
    have m2 := ((hl2.extBut hs₁.extBut D.l2z).extBut hs₂.extBut D.l2i1).extBut hs₃.extBut D.l2TO
    refine wpAny_bind (wpAny_nextOf_list_item j2 m2 hy fun h₄ g2 hs₄ => wpAny_pure ?_)
    have t4 : IsPair h₄ TO x b := hs₄.extBut _ _ D.TOi2 t3
    refine wpAny_bind (wpAny_seqItems t4 rfl ?_)
    refine wpAny_bind (wpAny_updateSeq_pair t4 fun h₅ t5 hs₅ => ?_)
    replace t5 : IsPair h₅ TO x y := t5
    refine wpAny_bind (wpAny_letGo (wpAny_pure (wpAny_pure ?_)))
    refine wpAny_bind (wpAny_seqItems t5 rfl ?_)
    refine wpAny_bind (wpAny_newTuple ?_)
    have hsz : h₅.objs.size = s.heap.objs.size := ((((hs₅.1.trans hs₄.1).trans hs₃.1).trans hs₂.1).trans hs₁.1)
    have z5 : ZipG h₅ z TI TO .ellipsis f1 := hs₅.extBut _ _ D.TOz.symm (hs₄.extBut _ _ D.i2z.symm (hs₃.extBut _ _ D.TOz.symm (hs₂.extBut _ _ D.i1z.symm hz₁)))
    have k5 : ∀ c o, c ≠ z → c ≠ TO → c ≠ i1 → c ≠ i2 → s.heap.get? c = some o → h₅.get? c = some o := fun c o c1 c2 c3 c4 e =>
      hs₅.extBut _ _ c2 (hs₄.extBut _ _ c4 (hs₃.extBut _ _ c2 (hs₂.extBut _ _ c3 (hs₁.extBut _ _ c1 e))))
    have q1 : h₅.IsListIter i1 l1 (k1 + 1) := ((g1.extBut hs₃.extBut D.TOi1.symm).extBut hs₄.extBut D.i12).extBut hs₅.extBut D.TOi1.symm
    have q2 : h₅.IsListIter i2 l2 (k2 + 1) := g2.extBut hs₅.extBut D.TOi2.symm
    have zlt : z < h₅.objs.size := Heap.lt_size z5
    show wpAny _ _ (Builtin.SmallTypes.ownedTupleHandOut (.ref z) (.ref h₅.objs.size) >>= _) _ _ _
    refine wpAny_bind ?_
    unfold Builtin.SmallTypes.ownedTupleHandOut
    have z6 : ZipG (h₅.push { cls := .type "tuple", data := .seq #[x, y] }) z TI TO .ellipsis f1 := Heap.get?_push_of_some _ z5
    refine wpAny_bind (wpAny_setField_rec z6 (by simp) fun h₇ z7 hs₇ => ?_)
    replace z7 : ZipG h₇ z TI TO (rawInt h₅.objs.size) f1 := z7
    refine wpAny_setField_rec z7 (by simp) fun h₈ z8 hs₈ => ?_
    replace z8 : ZipG h₈ z TI TO (rawInt h₅.objs.size) false := z8
    have up : ∀ c o, c ≠ z → h₅.get? c = some o → h₈.get? c = some o := fun c o c1 e => hs₈.extBut _ _ c1 (hs₇.extBut _ _ c1 (Heap.get?_push_of_some _ e))
    have p8 : IsPair h₈ h₅.objs.size x y := hs₈.extBut _ _ (Nat.ne_of_gt zlt) (hs₇.extBut _ _ (Nat.ne_of_gt zlt) (Heap.get?_push_size _ rfl))
    have n8 : h₈.objs.size = h₅.objs.size + 1 := by rw [hs₈.1, hs₇.1, Heap.size_push]
    refine wpAny_pure ⟨_, rfl, ?_⟩
    show Q (.ref h₅.objs.size) _
    rw [hsz] at z8 p8 n8 ⊢
    exact hQ h₈ _ _ _ _ z8 (.inr ⟨s.heap.objs.size, rfl⟩) (up _ _ D.TOz t5) (q1.at fun o e => up _ o D.i1z e) (q2.at fun o e => up _ o D.i2z e) p8 n8 fun c o c1 c2 c3 c4 e => up c o c1 (k5 c o c1 c2 c3 c4 e)
  · -- somebody holds it: a tuple of its own
    simp only [Bool.false_eq_true, if_false]
    refine wpAny_bind ?_
    simp only [List.forIn_toArray, List.forIn_cons, List.forIn_nil]
    refine wpAny_bind (wpAny_bind (wpAny_holding ?_))
    show wpAny _ _ (Builtin.SmallTypes.nextOf (.ref i1) >>= _) _ _ _
    refine wpAny_bind (wpAny_nextOf_list_item (h1.extBut hs₁.extBut D.i1z) (hl1.extBut hs₁.extBut D.l1z) hx fun h₂ g1 hs₂ => wpAny_pure ?_)
    refine wpAny_pure ?_
    refine wpAny_bind (wpAny_bind (wpAny_holding ?_))
    show wpAny _ _ (Builtin.SmallTypes.nextOf (.ref i2) >>= _) _ _ _
    have j2 := (h2.extBut hs₁.extBut D.i2z).extBut hs₂.extBut D.i12.symm
    have m2 := (hl2.extBut hs₁.extBut D.l2z).extBut hs₂.extBut D.l2i1
    refine wpAny_bind (wpAny_nextOf_list_item j2 m2 hy fun h₃ g2 hs₃ => wpAny_pure ?_)
    refine wpAny_pure ?_
    refine wpAny_pure ?_
    refine wpAny_bind (wpAny_newTuple ?_ (by show 2 ≤ sizeLine; decide))
    have hsz : h₃.objs.size = s.heap.objs.size := (hs₃.1.trans hs₂.1).trans hs₁.1
    have zlt : z < s.heap.objs.size := Heap.lt_size hz
    have k3 : ∀ c o, c ≠ z → c ≠ i1 → c ≠ i2 → s.heap.get? c = some o → h₃.get? c = some o := fun c o c1 c3 c4 e => hs₃.extBut _ _ c4 (hs₂.extBut _ _ c3 (hs₁.extBut _ _ c1 e))
    have z3 : ZipG h₃ z TI TO f0 true := hs₃.extBut _ _ D.i2z.symm (hs₂.extBut _ _ D.i1z.symm hz₁)
    refine wpAny_pure ⟨_, rfl, ?_⟩
    show Q (.ref h₃.objs.size) _
    have up : ∀ c o, h₃.get? c = some o → (h₃.push { cls := .type "tuple", data := .seq #[x, y] }).get? c = some o := fun c o e => Heap.get?_push_of_some _ e
    have p4 : IsPair (h₃.push { cls := .type "tuple", data := .seq #[x, y] }) h₃.objs.size x y := Heap.get?_push_size _ rfl
    have n4 : (h₃.push { cls := .type "tuple", data := .seq #[x, y] }).objs.size = h₃.objs.size + 1 := Heap.size_push ..
    rw [hsz] at p4 n4 ⊢
    exact hQ _ _ _ _ _ (up _ _ z3) hf (up _ _ (k3 _ _ D.TOz D.TOi1 D.TOi2 hTO)) ((g1.extBut hs₃.extBut D.i12).at fun o e => up _ o e) (g2.at fun o e => up _ o e) p4 n4 fun c o c1 c2 c3 c4 e => up c o (k3 c o c1 c3 c4 e)

/-- the zip's next where one of both is at its end -/
theorem zip_gen_end {k1 k2 : Nat} {xs ys : Array Value} {a b : Value} {Q : Fin → Shared → Prop} (hh : A.handled = none) (D : ZipApart z TI TO i1 i2 l1 l2)
    (hz : ZipG s.heap z TI TO f0 f1) (hf : Held f0) (hTI : IsPair s.heap TI (.ref i1) (.ref i2)) (hTO : IsPair s.heap TO a b)
    (h1 : s.heap.IsListIter i1 l1 k1) (h2 : s.heap.IsListIter i2 l2 k2) (hl1 : s.heap.IsList l1 xs) (hl2 : s.heap.IsList l2 ys) (hend : xs[k1]? = none ∨ ys[k2]? = none)
    (hE : ∀ h' e, (∀ c o, c ≠ z → c ≠ TO → c ≠ i1 → c ≠ i2 → s.heap.get? c = some o → h'.get? c = some o) → (∃ o, h'.get? e = some o ∧ o.cls = .type "StopIteration") → E (.ref e) { s with heap := h' }) :
    wpAny (model prog w) A (Builtin.«zip.__next__» ⟨[.ref z], []⟩) Q E s := by
  show wpAny _ _ (field (.ref z) 2 >>= _) _ _ _
  refine wpAny_bind (wpAny_field hz rfl (x := .bool false) rfl ?_)
  show wpAny _ _ (field (.ref z) 3 >>= _) _ _ _
  refine wpAny_bind (wpAny_field hz rfl (x := .ref TI) rfl ?_)
  refine wpAny_bind (wpAny_seqItems hTI rfl ?_)
  show wpAny _ _ (Builtin.SmallTypes.ownedTupleIsFree (.ref z) >>= _) _ _ _
  refine wpAny_bind (own_free hz hf ?_ fun h₁ hz₁ hs₁ => ?_)
  · simp only [if_true]
    refine wpAny_bind (wpAny_rule ?_)
    refine wpAny_bind (wpAny_field hz rfl (x := .ref TO) rfl ?_)
    refine wpAny_bind (wpAny_setField_rec hz (by simp) fun h₁ hz₁ hs₁ => ?_)
    replace hz₁ : ZipG h₁ z TI TO .ellipsis f1 := hz₁
    refine wpAny_bind ?_
    simp only [List.zipIdx_cons, List.zipIdx_nil, List.forIn_cons, List.forIn_nil]
    refine wpAny_bind (wpAny_bind (wpAny_onRaise ?_))
    show wpAny _ _ (Builtin.SmallTypes.nextOf (.ref i1) >>= _) _ _ _
    cases hx : xs[k1]? with
    | none =>
      refine wpAny_bind (wpAny_nextOf_list_end hh (h1.extBut hs₁.extBut D.i1z) (hl1.extBut hs₁.extBut D.l1z) hx fun h₂ e hs₂ he => ?_)
      obtain ⟨oe, hoe, hce⟩ := he
      have z2 : ZipG h₂ z TI TO .ellipsis f1 := hs₂ _ _ D.i1z.symm hz₁
      have hez : e ≠ z := fun x => by
        rw [x, z2] at hoe
        cases hoe
        simp at hce
      exact wpAny_setField_rec z2 (by simp) fun h₃ _ hs₃ => hE h₃ e (fun c o c1 _ c3 _ x => hs₃.extBut _ _ c1 (hs₂ _ _ c3 (hs₁.extBut _ _ c1 x))) ⟨oe, hs₃.extBut _ _ hez hoe, hce⟩
    | some x =>
      have hy : ys[k2]? = none := hend.resolve_left (by rw [hx]; exact fun q => nomatch q)
      refine wpAny_bind (wpAny_nextOf_list_item (h1.extBut hs₁.extBut D.i1z) (hl1.extBut hs₁.extBut D.l1z) hx fun h₂ g1 hs₂ => wpAny_pure ?_)
      have t2 : IsPair h₂ TO a b := hs₂.extBut _ _ D.TOi1 (hs₁.extBut _ _ D.TOz hTO)
      refine wpAny_bind (wpAny_seqItems t2 rfl ?_)
      refine wpAny_bind (wpAny_updateSeq_pair t2 fun h₃ t3 hs₃ => ?_)
      refine wpAny_bind (wpAny_letGo (wpAny_pure ?_))
      refine wpAny_bind (wpAny_bind (wpAny_onRaise ?_))
      show wpAny _ _ (Builtin.SmallTypes.nextOf (.ref i2) >>= _) _ _ _
      have j2 := ((h2.extBut hs₁.extBut D.i2z).extBut hs₂.extBut D.i12.symm).extBut hs₃.extBut D.TOi2.symm
      have m2 := ((hl2.extBut hs₁.extBut D.l2z).extBut hs₂.extBut D.l2i1).extBut hs₃.extBut D.l2TO
      refine wpAny_bind (wpAny_nextOf_list_end hh j2 m2 hy fun h₄ e hs₄ he => ?_)
      obtain ⟨oe, hoe, hce⟩ := he
      have z4 : ZipG h₄ z TI TO .ellipsis f1 := hs₄ _ _ D.i2z.symm (hs₃.extBut _ _ D.TOz.symm (hs₂.extBut _ _ D.i1z.symm hz₁))
      have hez : e ≠ z := fun x => by
        rw [x, z4] at hoe
        cases hoe
        simp at hce
      exact wpAny_setField_rec z4 (by simp) fun h₅ _ hs₅ => hE h₅ e (fun c o c1 c2 c3 c4 x => hs₅.extBut _ _ c1 (hs₄ _ _ c4 (hs₃.extBut _ _ c2 (hs₂.extBut _ _ c3 (hs₁.extBut _ _ c1 x))))) ⟨oe, hs₅.extBut _ _ hez hoe, hce⟩
  · simp only [Bool.false_eq_true, if_false]
    refine wpAny_bind ?_
    simp only [List.forIn_toArray, List.forIn_cons, List.forIn_nil]
    refine wpAny_bind (wpAny_bind (wpAny_holding ?_))
    show wpAny _ _ (Builtin.SmallTypes.nextOf (.ref i1) >>= _) _ _ _
    cases hx : xs[k1]? with
    | none =>
      refine wpAny_bind (wpAny_nextOf_list_end hh (h1.extBut hs₁.extBut D.i1z) (hl1.extBut hs₁.extBut D.l1z) hx fun h₂ e hs₂ he => ?_)
      exact hE h₂ e (fun c o c1 _ c3 _ x => hs₂ _ _ c3 (hs₁.extBut _ _ c1 x)) he
    | some x =>
      have hy : ys[k2]? = none := hend.resolve_left (by rw [hx]; exact fun q => nomatch q)
      refine wpAny_bind (wpAny_nextOf_list_item (h1.extBut hs₁.extBut D.i1z) (hl1.extBut hs₁.extBut D.l1z) hx fun h₂ g1 hs₂ => wpAny_pure ?_)
      refine wpAny_pure ?_
      refine wpAny_bind (wpAny_bind (wpAny_holding ?_))
      show wpAny _ _ (Builtin.SmallTypes.nextOf (.ref i2) >>= _) _ _ _
      have j2 := (h2.extBut hs₁.extBut D.i2z).extBut hs₂.extBut D.i12.symm
      have m2 := (hl2.extBut hs₁.extBut D.l2z).extBut hs₂.extBut D.l2i1
      refine wpAny_bind (wpAny_nextOf_list_end hh j2 m2 hy fun h₃ e hs₃ he => ?_)
      exact hE h₃ e (fun c o c1 _ c3 c4 x => hs₃ _ _ c4 (hs₂.extBut _ _ c3 (hs₁.extBut _ _ c1 x))) he

/-- enumerate over a zip: its next -/
theorem enz_item {e : Addr} {i : Nat} {xs ys : Array Value} {x y a b old : Value} {Q : Option Value → Shared → Prop} (D : ZipApart z TI TO i1 i2 l1 l2) (he : IsEnum s.heap e z i old) (hez : e ≠ z) (heO : e ≠ TO) (he1 : e ≠ i1) (he2 : e ≠ i2)
    (hz : ZipG s.heap z TI TO f0 f1) (hf : Held f0) (hTI : IsPair s.heap TI (.ref i1) (.ref i2)) (hTO : IsPair s.heap TO a b)
    (h1 : s.heap.IsListIter i1 l1 i) (h2 : s.heap.IsListIter i2 l2 i) (hl1 : s.heap.IsList l1 xs) (hl2 : s.heap.IsList l2 ys) (hx : xs[i]? = some x) (hy : ys[i]? = some y)
    (hQ : ∀ h1' h' g0 g1 a' b', ZipG h1' z TI TO g0 g1 → Held g0 → IsPair h1' TO a' b' → h1'.IsListIter i1 l1 (i + 1) → h1'.IsListIter i2 l2 (i + 1) → IsPair h1' s.heap.objs.size x y → h1'.objs.size = s.heap.objs.size + 1 →
      (∀ c o, c ≠ z → c ≠ TO → c ≠ i1 → c ≠ i2 → s.heap.get? c = some o → h1'.get? c = some o) →
      IsEnumOut h' e z ((i : Int) + 1) (.ref s.heap.objs.size) (s.heap.objs.size + 1) → h'.get? (s.heap.objs.size + 1) = some { cls := .type "tuple", data := .seq #[.int i s.toks, .ref s.heap.objs.size] } →
      (∀ c o, c ≠ e → h1'.get? c = some o → h'.get? c = some o) → Q (some (.ref (s.heap.objs.size + 1))) { s with heap := h', toks := s.toks + 1 }) :
    wpAny (model prog w) A (pyNext (.ref e)) Q E s := by
  obtain ⟨hp, g, d, tk, os⟩ := s
  have hT : Shared.TypeIs ⟨hp, g, d, tk, os⟩ (.ref e) "enumerate" := ⟨_, he, rfl⟩
  unfold pyNext
  refine wpAny_bind (wpAny_attempt (wpAny_callSpecial?_slot (name := Str.ofString "__next__") hT PySem.F.slot_enumerate_next
    (wpAny_call_entry PySem.F.slot_enumerate_next hT PySem.F.entry_enumerate_next ?_ (PySem.F.args_enumerate_next_1 _))))
  show wpAny _ _ (field (.ref e) 2 >>= _) _ _ _
  refine wpAny_bind (wpAny_field he rfl (x := .ref z) rfl ?_)
  have hTz : Shared.TypeIs ⟨hp, g, d, tk, os⟩ (.ref z) "zip" := ⟨_, hz, rfl⟩
  refine wpAny_bind ?_
  unfold Builtin.SmallTypes.nextOf
  refine wpAny_bind (wpAny_callSpecial?_slot (name := Str.ofString "__next__") hTz PySem.F.slot_zip_next
    (wpAny_call_entry PySem.F.slot_zip_next hTz PySem.F.entry_zip_next ?_ (PySem.F.args_zip_next_1 _)))
  refine zip_gen_item D hz hf hTI hTO h1 h2 hl1 hl2 hx hy fun hm g0 g1 a' b' hz' hf' hTO' h1' h2' hP hsz hk => ?_
  refine wpAny_pure ?_
  have he₁ : IsEnum hm e z i old := hk _ _ hez heO he1 he2 he
  have hel : e < hm.objs.size := Heap.lt_size he₁
  show wpAny _ _ (field (.ref e) 3 >>= _) _ _ _
  refine wpAny_bind (wpAny_field he₁ rfl (x := rawInt i) rfl ?_)
  show wpAny _ _ (field (.ref e) 4 >>= _) _ _ _
  refine wpAny_bind (wpAny_field he₁ rfl (x := .none) rfl ?_)
  show wpAny _ _ (mkInt i >>= _) _ _ _
  refine wpAny_bind (wpAny_mkInt ?_)
  show wpAny _ _ (setField (.ref e) 3 (rawInt ((i : Int) + 1)) >>= _) _ _ _
  refine wpAny_bind (wpAny_setField_rec he₁ (by simp) fun n2 w2 s2 => ?_)
  replace s2 : Heap.SameBut e hm n2 := s2
  replace w2 : IsEnum n2 e z ((i : Int) + 1) old := w2
  show wpAny _ _ (setField (.ref e) 4 .none >>= _) _ _ _
  refine wpAny_bind (wpAny_setField_rec w2 (by simp) fun n3 w3 s3 => ?_)
  replace s3 : Heap.SameBut e n2 n3 := s3
  replace w3 : IsEnum n3 e z ((i : Int) + 1) old := w3
  refine wpAny_bind (wpAny_newTuple ?_)
  have sz3 : n3.objs.size = hp.objs.size + 1 := (s3.1.trans s2.1).trans hsz
  have w4 : IsEnum (n3.push { cls := .type "tuple", data := .seq #[.int i tk, .ref hp.objs.size] }) e z ((i : Int) + 1) old := Heap.get?_push_of_some _ w3
  have t4 : (n3.push { cls := .type "tuple", data := .seq #[.int i tk, .ref hp.objs.size] }).get? n3.objs.size = some { cls := .type "tuple", data := .seq #[.int i tk, .ref hp.objs.size] } := Heap.get?_push_size _ rfl
  have k4 : ∀ c o, c ≠ e → hm.get? c = some o → (n3.push { cls := .type "tuple", data := .seq #[.int i tk, .ref hp.objs.size] }).get? c = some o := fun c o hc q => Heap.get?_push_of_some _ (s3.extBut c o hc (s2.extBut c o hc q))
  have ne3 : n3.objs.size ≠ e := by
    rw [sz3, ← hsz]
    exact Nat.ne_of_gt hel
  show wpAny _ _ (Builtin.SmallTypes.ownedTupleIsFree (.ref e) >>= _) _ _ ⟨n3.push { cls := .type "tuple", data := .seq #[.int i tk, .ref hp.objs.size] }, g, d, tk + 1, os⟩
  generalize n3.push { cls := .type "tuple", data := .seq #[.int i tk, .ref hp.objs.size] } = n4 at w4 t4 k4 ⊢
  refine wpAny_bind ?_
  unfold Builtin.SmallTypes.ownedTupleIsFree
  refine wpAny_bind (wpAny_field w4 rfl (x := .none) rfl (wpAny_pure ?_))
  simp only [if_true]
  refine wpAny_bind (wpAny_rule ?_)
  refine wpAny_bind (wpAny_field w4 rfl (x := old) rfl ?_)
  refine wpAny_bind (wpAny_setField_rec w4 (by simp) fun n5 w5 s5 => ?_)
  replace s5 : Heap.SameBut e n4 n5 := s5
  replace w5 : IsEnum n5 e z ((i : Int) + 1) (.ref hp.objs.size) := w5
  show wpAny _ _ (Builtin.SmallTypes.ownedTupleHandOut (.ref e) (.ref n3.objs.size) >>= _) _ _ _
  refine wpAny_bind ?_
  unfold Builtin.SmallTypes.ownedTupleHandOut
  refine wpAny_bind (wpAny_setField_rec w5 (by simp) fun n6 w6 s6 => ?_)
  replace s6 : Heap.SameBut e n5 n6 := s6
  replace w6 : IsEnumOut n6 e z ((i : Int) + 1) (.ref hp.objs.size) n3.objs.size := w6
  refine wpAny_setField_rec w6 (by simp) fun n7 w7 s7 => ?_
  replace s7 : Heap.SameBut e n6 n7 := s7
  replace w7 : IsEnumOut n7 e z ((i : Int) + 1) (.ref hp.objs.size) n3.objs.size := w7
  have up : ∀ c o, c ≠ e → n4.get? c = some o → n7.get? c = some o := fun c o hc q => s7.extBut c o hc (s6.extBut c o hc (s5.extBut c o hc q))
  have t7 := up _ _ ne3 t4
  refine wpAny_bind (wpAny_letGo (wpAny_pure ⟨_, rfl, wpAny_pure ?_⟩))
  show Q (some (.ref n3.objs.size)) _
  rw [sz3] at w7 t7 ⊢
  exact hQ hm n7 g0 g1 a' b' hz' hf' hTO' h1' h2' hP hsz hk w7 t7 fun c o hc q => up c o hc (k4 c o hc q)
theorem enz_end {e : Addr} {i : Nat} {xs ys : Array Value} {a b old : Value} {Q : Option Value → Shared → Prop} (hh : A.handled = none) (D : ZipApart z TI TO i1 i2 l1 l2) (he : IsEnum s.heap e z i old)
    (hz : ZipG s.heap z TI TO f0 f1) (hf : Held f0) (hTI : IsPair s.heap TI (.ref i1) (.ref i2)) (hTO : IsPair s.heap TO a b)
    (h1 : s.heap.IsListIter i1 l1 i) (h2 : s.heap.IsListIter i2 l2 i) (hl1 : s.heap.IsList l1 xs) (hl2 : s.heap.IsList l2 ys) (hend : xs[i]? = none ∨ ys[i]? = none)
    (hQ : ∀ h', (∀ c o, c ≠ z → c ≠ TO → c ≠ i1 → c ≠ i2 → s.heap.get? c = some o → h'.get? c = some o) → Q none { s with heap := h' }) :
    wpAny (model prog w) A (pyNext (.ref e)) Q E s := by
  obtain ⟨hp, g, d, tk, os⟩ := s
  have hT : Shared.TypeIs ⟨hp, g, d, tk, os⟩ (.ref e) "enumerate" := ⟨_, he, rfl⟩
  unfold pyNext
  refine wpAny_bind (wpAny_attempt (wpAny_callSpecial?_slot (name := Str.ofString "__next__") hT PySem.F.slot_enumerate_next
    (wpAny_call_entry PySem.F.slot_enumerate_next hT PySem.F.entry_enumerate_next ?_ (PySem.F.args_enumerate_next_1 _))))
  show wpAny _ _ (field (.ref e) 2 >>= _) _ _ _
  refine wpAny_bind (wpAny_field he rfl (x := .ref z) rfl ?_)
  have hTz : Shared.TypeIs ⟨hp, g, d, tk, os⟩ (.ref z) "zip" := ⟨_, hz, rfl⟩
  refine wpAny_bind ?_
  unfold Builtin.SmallTypes.nextOf
  refine wpAny_bind (wpAny_callSpecial?_slot (name := Str.ofString "__next__") hTz PySem.F.slot_zip_next
    (wpAny_call_entry PySem.F.slot_zip_next hTz PySem.F.entry_zip_next ?_ (PySem.F.args_zip_next_1 _)))
  refine zip_gen_end hh D hz hf hTI hTO h1 h2 hl1 hl2 hend fun h' x hk hx => ?_
  obtain ⟨o, ho, hc⟩ := hx
  refine wpAny_bind (wpAny_isInstance (T := "StopIteration") (b := true) ⟨o, ho, hc⟩ isSubtype_stop ?_)
  exact wpAny_pure (hQ _ hk)
end
end LD
/-! EnZ2: enumerate(zip(xs, ys)) made and walked. -/
namespace LD
open PySem PySem.Spec PyProof.Rows L2
set_option maxHeartbeats 8000000 in
theorem meets_enum_zip (z TI TO : Addr) :
    Meets (Builtin.«enumerate.__new__» ⟨[.type "enumerate", .ref z], []⟩) (fun _ R s => IsZip s.heap z TI TO .none ∧
      R (.ok (.ret (.ref s.heap.objs.size))) { s with heap := s.heap.push { cls := .type "enumerate", data := .fields #[.none, .bool false, .ref z, rawInt 0, .none, .none] } }) :=
  .of_wp fun prog w A R s h => by
    obtain ⟨hp, g, d, tk, os⟩ := s
    obtain ⟨hz, h⟩ := h
    have hsub := sub_enumerate
    have hZ : IsZip (Shared.heap ⟨hp, g, d, tk, os⟩) z TI TO .none := hz
    wp_walk using wpAny_pyIter_zip hZ
    refine wpAny_stack_any fun st => wpAny_pure ?_
    split
    · rename_i c _ _ _ _ _
      cases (c == Value.type "enumerate")
      · wp_walk using wpAny_pyIter_zip hZ
        exact ⟨_, rfl, h⟩
      · wp_walk using wpAny_pyIter_zip hZ
        exact ⟨_, rfl, h⟩
    · wp_walk using wpAny_pyIter_zip hZ
      exact ⟨_, rfl, h⟩
section
variable {prog : Program} {w : World} {A : Around} {E : Value → Shared → Prop} {s : Shared}
theorem call_enum_zip {z TI TO : Addr} {Q : Value → Shared → Prop} (hz : IsZip s.heap z TI TO .none)
    (h : ∀ h', IsEnum h' s.heap.objs.size z 0 .none → (∀ b o, s.heap.get? b = some o → h'.get? b = some o) → Q (.ref s.heap.objs.size) { s with heap := h' }) :
    wpAny (model prog w) A (call (.type "enumerate") [.ref z]) Q E s := by
  have z0 : s.heap.get? z = some { cls := .type "zip", dict := none, data := .fields #[.none, .bool false, .bool false, .ref TI, .ref TO], slots := #[] } := hz
  refine callType_new PySem.F.called_enumerate (by decide) (PySem.F.typeCall_enumerate_1 _) (PySem.F.newCall_enumerate_1 _) (fun obj => PySem.F.args_object_init_2 obj _) PySem.F.entry_enumerate_new
    (meets_enum_zip z TI TO) ⟨z0, ?_⟩
  have he : IsEnum (s.heap.push { cls := .type "enumerate", data := .fields #[.none, .bool false, .ref z, rawInt 0, .none, .none] }) s.heap.objs.size z 0 .none := Heap.get?_push_size _ rfl
  exact ⟨⟨_, he, rfl⟩, h _ he fun b o y => Heap.get?_push_of_some _ y⟩
end

/-- each turn: a new pair of the items, and a new pair of the place and that pair -/
def ItEZ (K : PySem.W.Frag) (a b : Addr) : It :=
  ⟨fun i H => ∃ (xs ys : List V) (x y : V), SqL K H a xs ∧ SqL K H b ys ∧ xs[i]? = some x ∧ ys[i]? = some y,
    fun i H v H' => ∃ T U x y, v = .ref U ∧ H T = none ∧ H U = none ∧ U ≠ T ∧ H' = upd (upd H T (.tup [x, y])) U (.tup [.int (i : Nat), .ref T]) ∧ (∀ xs, SqL K H a xs → xs[i]? = some x) ∧ ∀ ys, SqL K H b ys → ys[i]? = some y,
    fun i H => ∃ xs ys : List V, SqL K H a xs ∧ SqL K H b ys ∧ (xs.length ≤ i ∨ ys.length ≤ i)⟩
theorem turn_enz {P : Program} {w : World} {K : PySem.W.Frag} {elts : List Expr} {kk : Nat} {tpos : Pos} {a b e z TI TO i1 i2 : Addr} (D : ZipApart z TI TO i1 i2 a b) (hez : e ≠ z) (heI : e ≠ TI) (heO : e ≠ TO) (he1 : e ≠ i1) (he2 : e ≠ i2) :
    Turn P w K (.Tuple elts kk tpos) (ItEZ K a b) [e, z, TI, TO, i1, i2] e (fun i h => (∃ old, IsEnum h e z ((i : Nat) : Int) old) ∧ (∃ g0 g1, ZipG h z TI TO g0 g1 ∧ Held g0) ∧ IsPair h TI (.ref i1) (.ref i2) ∧ (∃ x y, IsPair h TO x y) ∧ h.IsListIter i1 a i ∧ h.IsListIter i2 b i) where
  mem := by simp
  obj := fun i h st c hc => by
    obtain ⟨⟨old, he⟩, ⟨g0, g1, hz, _⟩, hTI, ⟨x, y, hTO⟩, ⟨o1, e1, _, d1⟩, ⟨o2, e2, _, d2⟩⟩ := st
    have e' : c = e ∨ c = z ∨ c = TI ∨ c = TO ∨ c = i1 ∨ c = i2 := by simpa using hc
    rcases e' with q | q | q | q | q | q
    · rw [q]; exact ⟨_, he, fun v q => nomatch q⟩
    · rw [q]; exact ⟨_, hz, fun v q => nomatch q⟩
    · rw [q]; exact ⟨_, hTI, fun v q => nomatch q⟩
    · rw [q]; exact ⟨_, hTO, fun v q => nomatch q⟩
    · rw [q]; exact ⟨o1, e1, fun v q => by rw [d1] at q; cases q⟩
    · rw [q]; exact ⟨o2, e2, fun v q => by rw [d2] at q; cases q⟩
  keep := fun i h h' st k => by
    obtain ⟨⟨old, he⟩, ⟨g0, g1, hz, hf⟩, hTI, ⟨x, y, hTO⟩, h1, h2⟩ := st
    exact ⟨⟨old, k e (by simp) _ he⟩, ⟨g0, g1, k z (by simp) _ hz, hf⟩, k TI (by simp) _ hTI, ⟨x, y, k TO (by simp) _ hTO⟩, h1.at fun o q => k i1 (by simp) o q, h2.at fun o q => k i2 (by simp) o q⟩
  item := by
    intro X hP hw hK hc i pins s σ H E I hf st hg
    subst hP hw hK
    obtain ⟨⟨old, he⟩, ⟨g0, g1, hz, hh⟩, hTI, ⟨x0, y0, hTO⟩, h1, h2⟩ := st
    obtain ⟨xs, ys, x, y, hqx, hqy, hx, hy⟩ := hg
    obtain ⟨its, rv, p, _⟩ := I.list hqx
    obtain ⟨its2, rv2, p2, _⟩ := I.list hqy
    obtain ⟨u, hu, ru⟩ := rv.get hx
    obtain ⟨u2, hu2, ru2⟩ := rv2.get hy
    have hel : e < s.heap.objs.size := Heap.lt_size he
    have hzl : z < s.heap.objs.size := Heap.lt_size hz
    refine enz_item D he hez heO he1 he2 hz hh hTI hTO h1 h2 p.isList p2.isList (x := u) (y := u2) (by simpa using hu) (by simpa using hu2) fun hm h' q0 q1 a' b' hz' hh' hTO' h1' h2' hP hsz hk heo hT hk' => ?_
    refine ⟨_, rfl, wpAny_letOwnedTupleGo_enum (s := { s with heap := h', toks := s.toks + 1 }) heo fun h'' he' sb => ?_⟩
    -- the inner pair is laid, then the outer one
    have newT : ObjOk X.prog X.w (upd H s.heap.objs.size (.tup [x, y])) hm s.heap.objs.size (.tup [x, y]) :=
      ⟨by show 2 ≤ sizeLine; decide, [u, u2], .cons ru (.cons ru2 .nil), ⟨_, hP, rfl, _, rfl⟩⟩
    have I1 : Inv X pins σ (upd H s.heap.objs.size (.tup [x, y])) { s with heap := hm } :=
      I.turnedNew (t' := s.toks) (ch := [e, z, TI, TO, i1, i2]) (fun c o hb q => hk c o (fun q' => hb (by simp [q'])) (fun q' => hb (by simp [q'])) (fun q' => hb (by simp [q'])) (fun q' => hb (by simp [q'])) q) hf (Nat.le_refl _) newT
    have below : ∀ c ∈ [e, z, TI, TO, i1, i2], c < s.heap.objs.size := fun c hcm => by
      have e' : c = e ∨ c = z ∨ c = TI ∨ c = TO ∨ c = i1 ∨ c = i2 := by simpa using hcm
      rcases e' with q | q | q | q | q | q
      · rw [q]; exact hel
      · rw [q]; exact hzl
      · rw [q]; exact Heap.lt_size hTI
      · rw [q]; exact Heap.lt_size hTO
      · rw [q]; obtain ⟨_, e1, _⟩ := h1; exact Heap.lt_size e1
      · rw [q]; obtain ⟨_, e2, _⟩ := h2; exact Heap.lt_size e2
    have hf1 : ∀ c ∈ [e, z, TI, TO, i1, i2], FpOk X pins (upd H s.heap.objs.size (.tup [x, y])) c := fun c hcm => ⟨by
      rw [upd_ne (Nat.ne_of_lt (below c hcm))]
      exact (hf c hcm).1, (hf c hcm).2⟩
    have hUT : (s.heap.objs.size + 1 : Nat) ≠ s.heap.objs.size := Nat.succ_ne_self _
    have hT2 : h''.get? (s.heap.objs.size + 1) = some { cls := .type "tuple", data := .seq #[.int i s.toks, .ref s.heap.objs.size] } := (sb.2 _ (Nat.ne_of_gt (Nat.lt_succ_of_lt hel))).trans hT
    have newU : ObjOk X.prog X.w (upd (upd H s.heap.objs.size (.tup [x, y])) (s.heap.objs.size + 1) (.tup [.int (i : Nat), .ref s.heap.objs.size])) h'' (s.heap.objs.size + 1) (.tup [.int (i : Nat), .ref s.heap.objs.size]) :=
      ⟨by show 2 ≤ sizeLine; decide, [.int i s.toks, .ref s.heap.objs.size], .cons ⟨_, rfl⟩ (.cons rfl .nil), ⟨_, hT2, rfl, _, rfl⟩⟩
    have hle : ({ s with heap := hm } : Shared).heap.objs.size ≤ s.heap.objs.size + 1 := Nat.le_of_eq hsz
    have I2 : Inv X pins σ (upd (upd H s.heap.objs.size (.tup [x, y])) (s.heap.objs.size + 1) (.tup [.int (i : Nat), .ref s.heap.objs.size])) { s with heap := h'', toks := s.toks + 1 } :=
      Inv.turnedNew (s := { s with heap := hm }) (h' := h'') (t' := s.toks + 1) (ch := [e, z, TI, TO, i1, i2]) I1 (fun c o hb q => (sb.2 c (fun q' => hb (by simp [q']))).trans (hk' c o (fun q' => hb (by simp [q'])) q)) hf1 hle newU
    have hk2 : ∀ c o, c ≠ e → hm.get? c = some o → h''.get? c = some o := fun c o hce q => (sb.2 c hce).trans (hk' c o hce q)
    refine ⟨.ref (s.heap.objs.size + 1), _, I2, rfl, ⟨s.heap.objs.size, s.heap.objs.size + 1, x, y, rfl, I.hok.fresh (Nat.le_refl _), I.hok.fresh (Nat.le_succ _), hUT, rfl, fun l hl => by rw [I.list_inj hl hqx]; exact hx, fun l hl => by rw [I.list_inj hl hqy]; exact hy⟩,
      ⟨⟨.ref s.heap.objs.size, ?_⟩, ⟨q0, q1, hk2 _ _ hez.symm hz', hh'⟩, hk2 _ _ heI.symm (hk _ _ D.TIz D.TITO D.TIi1 D.TIi2 hTI), ⟨a', b', hk2 _ _ heO.symm hTO'⟩, h1'.at fun o q => hk2 _ o he1.symm q, h2'.at fun o q => hk2 _ o he2.symm q⟩, fun c hcm => ?_⟩
    · have e1 : ((i + 1 : Nat) : Int) = (i : Int) + 1 := by omega
      rw [e1]
      exact he'
    · rw [upd_ne (Nat.ne_of_lt (Nat.lt_succ_of_lt (below c hcm)))]
      exact (hf1 c hcm).1
  done := by
    intro X hP hw hK hc i pins s σ H E I hf st hg
    subst hP hw hK
    obtain ⟨⟨old, he⟩, ⟨g0, g1, hz, hh⟩, hTI, ⟨x0, y0, hTO⟩, h1, h2⟩ := st
    obtain ⟨xs, ys, hqx, hqy, hend⟩ := hg
    obtain ⟨its, rv, p, _⟩ := I.list hqx
    obtain ⟨its2, rv2, p2, _⟩ := I.list hqy
    have n1 := rv.length
    have n2 := rv2.length
    have hn : its.toArray[i]? = none ∨ its2.toArray[i]? = none := by
      rcases hend with q | q
      · exact .inl (by simp; omega)
      · exact .inr (by simp; omega)
    exact enz_end (I.ok.hd hc) D he hz hh hTI hTO h1 h2 p.isList p2.isList hn fun h' hk => ⟨rfl, I.turnedL (t' := s.toks) (ch := [e, z, TI, TO, i1, i2]) (fun c o hb q =>
      hk c o (fun q' => hb (by simp [q'])) (fun q' => hb (by simp [q'])) (fun q' => hb (by simp [q'])) (fun q' => hb (by simp [q'])) q) hf⟩
  self := fun A i s Q E st h => let ⟨⟨_, he⟩, _⟩ := st; wpAny_pyIter_enum he h

def iEnZ (K : PySem.W.Frag) (ta : TA) : TI := fun σ H R => ta σ H fun vs H1 => ∃ a b xs ys, vs = [.ref a, .ref b] ∧ SqL K H1 a xs ∧ SqL K H1 b ys ∧ R (ItEZ K a b) H1
theorem pi_enZ {X : Cx} {e e2 : Expr} {ta : TA} {p p2 pos pos2 tpos : Pos} {elts : List Expr} {kk : Nat} (hg : Gl X "enumerate") (hm : X.mg "enumerate" = none) (hg2 : Gl X "zip") (hm2 : X.mg "zip" = none) (ha : PA X [e, e2] ta)
    (hs : starEach [e, e2] X.env = (false, eval e X.env) :: starEach [e2] X.env := by rfl) (hpl : (backTo pos2 (starEach [e2] X.env)).any (·.1) = false := by rfl)
    (hs2 : starEach [Expr.Call (.Name "zip" p2) [e, e2] [] pos2] X.env = [(false, eval (Expr.Call (.Name "zip" p2) [e, e2] [] pos2) X.env)] := by rfl) :
    PI X (.Tuple elts kk tpos) (.Call (.Name "enumerate" p) [.Call (.Name "zip" p2) [e, e2] [] pos2] [] pos) (iEnZ X.K ta) := by
  refine ⟨fun pins s σ H R I h => ?_⟩
  refine Call_ (ld_blt I hg hm boot_enumerate (PyProof.Rows.callWith_type1 ?_ hs2 rfl))
  rw [hs2]
  refine Calls.spliced_cons (Call_ (ld_blt I hg2 hm2 PyProof.Rows.boot_zip (PyProof.Rows.callWith_type1 (thn (ha.run pos2 pins s σ H _ I h) fun us s1 ⟨vs, H1, I1, r1, q1⟩ => ?_) hs hpl)))
  obtain ⟨a, b, xs, ys, ex, hqx, hqy, q⟩ := q1
  subst ex
  cases r1 with
  | cons r rr =>
    cases rr with
    | cons r' rr =>
      cases rr
      cases r
      cases r'
      obtain ⟨its, rv, m1, _⟩ := I1.list hqx
      obtain ⟨its2, rv2, m2, _⟩ := I1.list hqy
      have la : a < s1.heap.objs.size := m1.lt
      have lb : b < s1.heap.objs.size := m2.lt
      refine call_zip_2 m1.isList m2.isList fun h' hz hTI hTO h1 h2 hsz hk => Calls.spliced_nil ?_
      refine call_enum_zip hz fun h'' he hk' => wpAny_pyIter_enum he ?_
      have I2 : Inv X pins σ H1 { s1 with heap := h'' } := I1.kept (t' := s1.toks) fun b o q => hk' b o (hk b o q)
      have sz : ({ s1 with heap := h' } : Shared).heap.objs.size = s1.heap.objs.size + 5 := hsz
      rw [sz] at he ⊢
      refine ⟨s1.heap.objs.size + 5, [s1.heap.objs.size + 5, s1.heap.objs.size + 4, s1.heap.objs.size + 2, s1.heap.objs.size + 3, s1.heap.objs.size, s1.heap.objs.size + 1], _, _, H1, rfl, I2,
        turn_enz (PySem.W.ktu_apart s1.heap.objs.size a b la lb) (by show (_ + 5 : Nat) ≠ _ + 4; omega) (by show (_ + 5 : Nat) ≠ _ + 2; omega) (by show (_ + 5 : Nat) ≠ _ + 3; omega) (by show (s1.heap.objs.size + 5 : Nat) ≠ s1.heap.objs.size; omega) (by show (_ + 5 : Nat) ≠ _ + 1; omega),
        ⟨⟨_, he⟩, ⟨_, _, hk' _ _ hz, .inl rfl⟩, hk' _ _ hTI, ⟨_, _, hk' _ _ hTO⟩, h1.at fun o q => hk' _ o q, h2.at fun o q => hk' _ o q⟩, fun c hcm => ?_, q⟩
      have e' : c = s1.heap.objs.size + 5 ∨ c = s1.heap.objs.size + 4 ∨ c = s1.heap.objs.size + 2 ∨ c = s1.heap.objs.size + 3 ∨ c = s1.heap.objs.size ∨ c = s1.heap.objs.size + 1 := by simpa using hcm
      have hle : s1.heap.objs.size ≤ c := by
        rcases e' with z | z | z | z | z | z
        · rw [z]; exact Nat.le_add_right _ _
        · rw [z]; exact Nat.le_add_right _ _
        · rw [z]; exact Nat.le_add_right _ _
        · rw [z]; exact Nat.le_add_right _ _
        · rw [z]; exact Nat.le_refl _
        · rw [z]; exact Nat.le_add_right _ _
      exact I1.fpOk hle (I1.hok.fresh hle)

/-- read as data: the place and a pair of the items -/
theorem ei_enZ {δ : DE} {ta tb : TE} {K : PySem.W.Frag} {xs ys : List D} (ha : EvD ta δ (.list xs)) (hb : EvD tb δ (.list ys)) : EvI (iEnZ K (tCons ta (tCons tb tNil))) δ (pairsD (countD (pairsD xs ys).length) (pairsD xs ys)) := fun σ F H s hl R q =>
  ea_cons ha (ea_cons hb ea_nil) σ F H s hl _ fun vs F1 H1 e1 r1 => by
    obtain ⟨v, w, rfl, r2, r3⟩ := rps2 r1
    obtain ⟨a, vx, rfl, ea, ra⟩ := r2.lst_of
    obtain ⟨b, vy, rfl, eb, rb⟩ := r3.lst_of
    have hlen : (pairsD (countD (pairsD xs ys).length) (pairsD xs ys)).length = min xs.length ys.length := by
      rw [pairsD_length, countD_length, pairsD_length]
      omega
    refine ⟨a, b, vx, vy, rfl, SqL.of (e1.s _ _ ea), SqL.of (e1.s _ _ eb), q _ F1 H1 (fun F => (F a = some (.lst vx) ∧ Rps F vx xs) ∧ F b = some (.lst vy) ∧ Rps F vy ys) e1 ⟨⟨ea, ra⟩, eb, rb⟩
      ⟨fun Fa Fb z g => ⟨⟨z _ _ g.1.1, g.1.2.mono z⟩, z _ _ g.2.1, g.2.2.mono z⟩, fun i Fa Ha z g hi => ?_, fun Fa Ha z g => ?_, fun i Fa Ha x Hb z g hi y => ?_⟩⟩
    · rw [hlen] at hi
      have h1 : i < vx.length := by rw [g.1.2.length]; omega
      have h2 : i < vy.length := by rw [g.2.2.length]; omega
      exact ⟨vx, vy, vx[i], vy[i], SqL.of (z _ _ g.1.1), SqL.of (z _ _ g.2.1), List.getElem?_eq_getElem h1, List.getElem?_eq_getElem h2⟩
    · refine ⟨vx, vy, SqL.of (z _ _ g.1.1), SqL.of (z _ _ g.2.1), ?_⟩
      rw [hlen, g.1.2.length, g.2.2.length]
      omega
    · obtain ⟨T, U, x1, y1, rfl, hT, hU, hUT, rfl, f1, f2⟩ := y
      obtain ⟨d1, hd1, rd1⟩ := g.1.2.get' (f1 vx (SqL.of (z _ _ g.1.1)))
      obtain ⟨d2, hd2, rd2⟩ := g.2.2.get' (f2 vy (SqL.of (z _ _ g.2.1)))
      have m : Same Fa (upd Fa T (.tup [x1, y1])) := same_upd (same_none z hT)
      have x1e : Ext Fa Ha (upd Fa T (.tup [x1, y1])) (upd Ha T (.tup [x1, y1])) := Ext.new z hT
      have hU1 : (upd Ha T (.tup [x1, y1])) U = none := by
        rw [upd_ne hUT]
        exact hU
      have x2e := Ext.new (o := .tup [.int (i : Nat), .ref T]) x1e.s hU1
      have m2 : Same (upd Fa T (.tup [x1, y1])) (upd (upd Fa T (.tup [x1, y1])) U (.tup [.int (i : Nat), .ref T])) := x2e.f
      rw [hlen] at hi
      have hi2 : i < (pairsD xs ys).length := by
        rw [pairsD_length]
        exact hi
      have rT : Rp (upd (upd Fa T (.tup [x1, y1])) U (.tup [.int (i : Nat), .ref T])) (.ref T) (.tuple [d1, d2]) := .tup (m2 _ _ upd_same) (.cons ((rd1.mono m).mono m2) (.cons ((rd2.mono m).mono m2) .nil))
      exact ⟨_, _, x1e.trans x2e, pairsD_get (countD_get hi2) (pairsD_get hd1 hd2), .tup upd_same (.cons (.int _) (.cons rT .nil))⟩
end LD
set_option maxHeartbeats 4000000
/-! Dat4: ** of wide ints, repr of data, defs that ask for free guards. -/
namespace LD
open PySem PySem.Spec PyProof.Rows L2
/-! ### i ** j -/
def CPowW (i j : Int) : Prop := 0 ≤ j ∧ (Builtin.Int.intBits i : Int) * j ≤ 2 ^ 27
abbrev rPowW : R2 := rI CPowW fun i j => .int (i ^ j.toNat)
theorem op_powW {X : Cx} : OpR X (binaryOp .Pow) rPowW := opI fun _ _ _ _ _ _ _ hc q => pow_int hc.1 hc.2 q
theorem bits_of {i : Int} {n : Nat} (h : i.natAbs < 2 ^ n) : Builtin.Int.intBits i ≤ n := by
  unfold Builtin.Int.intBits
  by_cases h0 : (i == 0) = true
  · rw [if_pos h0]
    exact Nat.zero_le _
  · rw [if_neg h0]
    have hne : i.natAbs ≠ 0 := fun z => h0 (by rw [Int.natAbs_eq_zero.mp z]; rfl)
    exact (Nat.log2_lt hne).mpr h
theorem ev_pow {δ : DE} {ta tb : TE} {i j : Int} (ha : EvD ta δ (.int i)) (hb : EvD tb δ (.int j)) (h0 : 0 ≤ j) (h : (Builtin.Int.intBits i : Int) * j ≤ 2 ^ 27) : EvD (tOp rPowW ta tb) δ (.int (i ^ j.toNat)) := ev_op ha hb (rv_I ⟨h0, h⟩ fun _ => .int _)

/-! ### repr -/
abbrev rRepr (K : PySem.W.Frag) : List V → Hp → VK → Prop := fun xs H Q => ∃ (x : V) (d : D), xs = [x] ∧ Dp K H x d ∧ d.showable = true ∧ d.hasDict = false ∧ d.depth ≤ 60 ∧ d.shown.length ≤ sizeLine ∧ Q (.str d.shown) H
theorem call_reprD {X : Cx} (hg : X.A.guards = some []) (hu : X.A.units + 64 < cLine) : CallR X (.builtin "repr") (rRepr X.K) := by
  intro pins s σ H xs us Q I r h
  obtain ⟨x, d, rfl, hd, hs, hn, hp, hz, q⟩ := h
  obtain ⟨u, rfl, ru⟩ := vals1 r
  have roads : ∀ a, u = .ref a → wpAny (model X.prog X.w) X.A (call (.builtin "repr") [u]) (EP X pins σ Q) X.xe s := fun a e => by
    subst e
    obtain ⟨as, rd⟩ := Dp.reads I d x _ hd ru
    exact repr_of_reads' rd hs (fun z => by rw [hn] at z; cases z) hg (by omega) (fun _ _ e => e) (fun h' t tk k => ⟨.str d.shown, H, I.kept (t' := tk) k, ⟨t, rfl⟩, q⟩) hz
  cases hd with
  | non =>
    cases ru
    exact PySem.P.repr_of_none ⟨.str _, H, I.tok _, ⟨_, rfl⟩, by simpa only [PyData.shown] using q⟩
  | bl b =>
    cases ru
    exact PySem.P.repr_of_bool ⟨.str _, H, I.tok _, ⟨_, rfl⟩, by simpa only [PyData.shown] using q⟩
  | int i =>
    obtain ⟨t, rfl⟩ := ru
    exact PySem.P.repr_of_int (by simpa [PyData.showable] using hs) ⟨.str _, H, I.tok _, ⟨_, rfl⟩, by simpa only [PyData.shown] using q⟩
  | str z =>
    obtain ⟨t, rfl⟩ := ru
    exact PySem.P.repr_of_str (hsz := by simpa only [PyData.shown] using hz) ⟨.str _, H, I.tok _, ⟨_, rfl⟩, by simpa only [PyData.shown] using q⟩
  | lst h1 h2 => exact roads _ ru
  | tup h1 h2 => exact roads _ ru
theorem ev_repr {δ : DE} {ta : TE} {K : PySem.W.Frag} {d : D} (ha : EvD ta δ d) (h1 : SeqAt.shaped d = true) (hs : d.showable = true) (hn : d.hasDict = false) (hp : d.depth ≤ 60) (hz : d.shown.length ≤ sizeLine) : EvD (tCB (rRepr K) (tCons ta tNil)) δ (.str d.shown) :=
  ev_cb (ea_cons ha ea_nil) fun vs F H s hr Q q => by
    obtain ⟨v, rfl, r⟩ := rps1 hr
    exact ⟨v, d, rfl, rp_dp s r h1, hs, hn, hp, hz, q _ F H (Ext.refl s) (.str _)⟩

/-! ### defs that ask for free guards -/
/-- as FnOk, where no repr runs around -/
structure FnG (P : Program) (w : World) (K : PySem.W.Frag) (mg : Str → Option Value) (base : Heap) (k : Nat) (f : Addr) (fd : FuncData) (ps : List Str) (sp : Sp) : Prop where
  len : ∀ vs H Q E, sp vs H Q E → vs.length = ps.length
  run : ∀ (A : Around) (outer : List Env) (s : Shared) (H : Hp) (args : Args) (us : List Value) (vs : List V) (Q : VK) (E : XK), Room k A → A.guards = some [] → Env0 P w K mg base A outer s H →
    BindsTo s fd args (ps.zip us) → Vals vs us → sp vs H Q E → codeAny (model P w) A (.call (.ref f) args) (CR CX0 outer P w H s Q E) s
def CalleeG (P : Program) (w : World) (K : PySem.W.Frag) (mg : Str → Option Value) (base : Heap) (k : Nat) (x : Str) (ps : List Str) (sp : Sp) : Prop :=
  ∃ f fd, mg x = some (.ref f) ∧ PySem.W.keepIn K (.ref f) = true ∧ Binds K fd ps [] ∧ FnG P w K mg base k f fd ps sp
theorem FnG.mono {P : Program} {w : World} {K : PySem.W.Frag} {mg : Str → Option Value} {base : Heap} {j k : Nat} {f : Addr} {fd : FuncData} {ps : List Str} {sp : Sp} (F : FnG P w K mg base j f fd ps sp) (h : j ≤ k) : FnG P w K mg base k f fd ps sp :=
  ⟨F.len, fun A outer s H args us vs Q E hr => F.run A outer s H args us vs Q E (hr.mono h)⟩
section
variable {X : Cx} {k : Nat} {ps : List Str} {sp : Sp} {x : Str} {p pos : Pos} {e : Expr} {es : List Expr} {t : TA}
theorem pe_callG (c : CalleeG X.prog X.w X.K X.mg X.base k x ps sp) (hr : Room k X.A) (gd : X.A.guards = some []) (hg : Gl X x) (ha : PA X (e :: es) t)
    (hdb : (x == ("__debug__" : Str)) = false := by decide) (he : starEach (e :: es) X.env = (false, eval e X.env) :: starEach es X.env := by rfl) (hpl : (backTo pos (starEach es X.env)).any (·.1) = false := by rfl) :
    PE X (.Call (.Name x p) (e :: es) [] pos) (tCall sp [] E0 t) := by
  obtain ⟨f, fd, hm, hk, hb, F⟩ := c
  refine ⟨fun pins s σ H Q I h => ?_⟩
  refine wpAny_Call_Name_kw (ld_glob I hg hm ?_ hdb)
  refine PySem.W.callWith_K (h₀ := X.base) I.ok.mod.kin hk ?_ he hpl
  refine thn (ha.run pos pins s σ H _ I h) fun us s1 hq => ?_
  obtain ⟨vs, H1, I1, r, q⟩ := hq
  refine ⟨I1.kIn, ?_⟩
  have r2 : Vals (vs ++ []) (us ++ []) := r.append .nil
  have hl : (us ++ []).length = ps.length := r2.length.symm.trans (F.len _ _ _ _ q)
  have go := F.run X.A X.stack s1 H1 ⟨us, []⟩ (us ++ []) (vs ++ []) Q E0 hr gd I1.env0 (hb s1 us I1.kIn hl) r2 q
  refine wpAny_call (codeAny_mono go fun res s2 hq2 => ?_)
  match res, hq2 with
  | .ok (.ret u), hq2 => exact I1.after hq2
  | .error e, hq2 => exact hq2.elim
  | .ok .next, hq2 => exact hq2.elim
  | .ok .brk, hq2 => exact hq2.elim
  | .ok .cont, hq2 => exact hq2.elim
end
theorem guards_deeper {A : Around} (env : Env) (h : A.guards = some []) : (A.deeper env).guards = some [] := by
  first | exact h | (show pushGuards _ A.guards = _; rw [h]; rfl)
/-- a def's promise from its body, the guards free -/
theorem fnG_of {P : Program} {w : World} {K : PySem.W.Frag} {mg : Str → Option Value} {base : Heap} {k : Nat} {f : Addr} {y : Str} {st : Stmt} {fd : FuncData} {N ps : List Str} {sp : Sp} (Fu : Fun K y y st f fd) (S : FnScope N ps (defScope st))
    (len : ∀ vs H Q E, sp vs H Q E → vs.length = ps.length)
    (hbody : ∀ (cdv : Value) (A : Around) (outer : List Env) (s : Shared) (H : Hp) (vs : List V) (Q : VK) (E : XK), Room k (A.deeper (envOfC y (defScope st) s.heap.objs.size f cdv)) → (A.deeper (envOfC y (defScope st) s.heap.objs.size f cdv)).guards = some [] → sp vs H Q E →
      ∃ t, PSs (cxOf CX0 P w K mg base N y (defScope st) f cdv A outer s H E).nox (defBody st) t ∧ t { nx := fun _ H' => Q .non H', rt := Q } (L2.start N vs) H) : FnG P w K mg base (k + 1) f fd ps sp := by
  obtain ⟨oc, od, kV, doc, pm, an, cdv, ct, osl, rfl, lk, hcd⟩ := Fu.ex
  refine ⟨len, fun A outer s H args us vs Q E hr gd e0 hb r hsp => ?_⟩
  have keeps : ∀ b o, base.get? b = some o → s.heap.get? b = some o := fun b o e => (e0.bs b o e).1
  have KX : K.In s.heap := e0.mod.kin.keeps keeps
  have local_or_cell : ∀ q ∈ ps.zip us, (defScope st).names.lookup q.1 = some .local ∨ ((defScope st).names.lookup q.1 = some .cell ∧ ((cellsFrom (s.heap.objs.size + 1) (defScope st).names []).lookup q.1).isSome = true) := by
    intro q hq
    cases S.par q.1 (List.of_mem_zip (b := q.2) hq).1 with
    | inl c => exact .inl c
    | inr c => exact .inr ⟨c, PySem.W.cellsFrom_some _ _ _ (.inl c)⟩
  obtain ⟨t, ht, hq⟩ := hbody cdv A outer s H vs Q E (hr.deeper _) (guards_deeper _ gd) hsp
  refine codeAny_call_function hr.depth (KX _ _ lk) rfl S.co S.gen rfl (PySem.W.codeRec_of KX hcd) (hb _ _ _ _ ?_)
  refine wpAny_newFunctionEnv_cells S.kind local_or_cell fun env he s1 x => ?_
  subst he
  have lim : s.heap.NoLimit := e0.mod.nolimit.keeps keeps
  refine ⟨lim.keeps x.toInCall.keep, codeAny_func ?_⟩
  have I0 := inv_start (CX := CX0) (P := P) (w := w) (K := K) (mg := mg) (base := base) (E := E) S hr.hd e0 (len _ _ _ _ hsp) r x
  refine wpAny_mono (ht.nox.run [] s1 (L2.start N vs) H _ I0 hq) (fun fl s2 hs => ?_) fun e s2 hs => hs
  match fl, hs with
  | .ret u, hs =>
    obtain ⟨v, σ2, H2, J, rv, q⟩ := hs
    exact ⟨v, H2, J.os, J.bare, J.base, J.hok, rv, q⟩
  | .next, hs =>
    obtain ⟨σ2, H2, J, q⟩ := hs
    exact ⟨.non, H2, J.os, J.bare, J.base, J.hok, rfl, q⟩
  | .brk, hs =>
    obtain ⟨_, _, _, q⟩ := hs
    exact q.elim
  | .cont, hs =>
    obtain ⟨_, _, _, q⟩ := hs
    exact q.elim
theorem calleeG_of {P : Program} {w : World} {K : PySem.W.Frag} {mg : Str → Option Value} {base : Heap} {k : Nat} {x y : Str} {st : Stmt} {N ps : List Str} {sp : Sp} {t : TS} (h : Stands K mg x y st ps) (sc : FnScope N ps (defScope st)) (len : ∀ vs H Q E, sp vs H Q E → vs.length = ps.length)
    (hd : ∀ (f : Addr) (cdv : Value) (A : Around) (outer : List Env) (s : Shared) (H : Hp) (E : XK), Room k (A.deeper (envOfC y (defScope st) s.heap.objs.size f cdv)) → (A.deeper (envOfC y (defScope st) s.heap.objs.size f cdv)).guards = some [] →
      PSs (cxOf CX0 P w K mg base N y (defScope st) f cdv A outer s H E).nox (defBody st) t)
    (wt : ∀ vs H Q E, sp vs H Q E → t { nx := fun _ H' => Q .non H', rt := Q } (L2.start N vs) H) : CalleeG P w K mg base (k + 1) x ps sp := by
  obtain ⟨f, fd, hm, F, hb⟩ := h
  exact ⟨f, fd, hm, F.kp, hb, fnG_of F sc len fun cdv A outer s H vs Q E hr hg h => ⟨t, hd f cdv A outer s H E hr hg, wt vs H Q E h⟩⟩
end LD
namespace LD
open PySem PySem.Spec PyProof.Rows L2
theorem law_end {P : Program} {w : World} {K : PySem.W.Frag} {mg mb : Str → Option Value} {k : Nat} {fa a : Addr} {fd : FuncData} {x : Str} {sp : Sp} {s : Shared} {us : List Value} {ns : List Int} (KX : K.In s.heap) (hns : s.heap.Ns mainGlobals mg) (hb : s.heap.Ns builtinsNs mb)
    (hbb : ∀ x : Str, x ≠ "__name__" → mb x = bootBuiltins x) (hlim : s.heap.NoLimit) (hg : s.gens = #[]) (ha : s.heap.get? a = some { cls := .type "list", data := .seq us.toArray }) (hi : IntsAre us ns) (hl : ns.length ≤ sizeLine) (hr : Room k callerA)
    (F : ∀ base : Heap, K.In base → base.Ns mainGlobals mg → FnG P w K mg base k fa fd [x] sp) (hbind : ∀ (s : Shared) (u : Value), BindsTo s fd ⟨[u], []⟩ [(x, u)])
    (hsp : ∀ H : Hp, SqL K H a (ns.map V.int) → sp [.ref a] H (fun v _ => v = .bl true) E0) :
    codeAny (model P w) callerA (.call (.ref fa) ⟨[.ref a], []⟩) (fun r s' => r = .ok (.ret (.bool true)) ∧ OldK s.heap s'.heap ∧ s'.os = s.os ∧ AllBare s'.gens) s := by
  have rv := vals_ints hi
  -- the script alone is tracked, where the module has not kept it
  obtain ⟨H, hH, hSq, hfr⟩ : ∃ H : Hp, (∀ b u, H b = some u → b = a ∧ K.lookup a = none ∧ u = .frz { cls := .type "list", data := .seq us.toArray } (.lst (ns.map V.int))) ∧ SqL K H a (ns.map V.int) ∧ HOk P w H s.heap := by
    cases hk : K.lookup a with
    | some o =>
      have e := KX a o hk
      rw [ha] at e
      cases e
      exact ⟨fun _ => none, (fun b u z => nomatch z), .inr ⟨_, us.toArray, _, hk, rfl, rfl, rfl, by rw [List.size_toArray, hi.length]; exact hl, by simpa using rv⟩, fun b u z => by have z' : (none : Option HO) = some u := z; cases z'⟩
    | none =>
      have one : ∀ b u, (if b = a then some (HO.frz { cls := .type "list", data := .seq us.toArray } (.lst (ns.map V.int))) else none) = some u → b = a ∧ u = .frz { cls := .type "list", data := .seq us.toArray } (.lst (ns.map V.int)) := fun b u z => by
        by_cases hba : b = a
        · rw [if_pos hba] at z
          exact ⟨hba, (Option.some.inj z).symm⟩
        · rw [if_neg hba] at z
          cases z
      refine ⟨fun b => if b = a then some (.frz { cls := .type "list", data := .seq us.toArray } (.lst (ns.map V.int))) else none, fun b u z => ⟨(one b u z).1, rfl, (one b u z).2⟩, .inl (.inr ⟨_, if_pos rfl⟩), fun b u z => ?_⟩
      obtain ⟨e1, e2⟩ := one b u z
      subst e1 e2
      exact ⟨ha, by rw [List.length_map]; exact hl, us, _, rv, ha⟩
  have free : ∀ {b : Addr}, (b = a → K.lookup a ≠ none) → H b = none := fun {b} hne => by
    cases q : H b with
    | none => rfl
    | some u =>
      obtain ⟨e1, e2, _⟩ := hH b u q
      exact absurd e2 (hne e1)
  have names : ∀ {b : Addr} {m : Str → Option Value}, s.heap.Ns b m → (hidT s.heap H).Ns b m := fun {b m} ⟨o, es, ep, e, d, r⟩ => ⟨o, es, ep, hidT_get e (by
    cases q : H b with
    | none => rfl
    | some u =>
      obtain ⟨e1, _, _⟩ := hH b u q
      subst e1
      rw [ha] at e
      cases e
      cases d), d, r⟩
  have hKb : K.In (hidT s.heap H) := fun b o e => hidT_get (KX b o e) (free fun z => by
    subst z
    rw [e]
    exact fun y => nomatch y)
  have hM : Mod K mg (hidT s.heap H) := ⟨hKb, names hns, ⟨mb, names hb, hbb⟩, let ⟨mc, h1, h2⟩ := hlim; ⟨mc, names h1, h2⟩⟩
  have e0 : Env0 P w K mg (hidT s.heap H) callerA [] s H := ⟨rfl, hM, fun b o e => of_hidT e, Nat.le_of_eq (hidT_size _ _), trivial, (fun b hb => nomatch hb), hfr, .of_eq hg⟩
  have run := (F _ hKb (names hns)).run callerA [] s H ⟨[.ref a], []⟩ [.ref a] [.ref a] (fun v _ => v = .bl true) E0 hr rfl e0 (hbind s (.ref a)) (.cons rfl .nil) (hsp H hSq)
  refine codeAny_mono run fun r s' h => ?_
  cases r with
  | error e => exact False.elim h
  | ok fl =>
    cases fl with
    | next => exact False.elim h
    | brk => exact False.elim h
    | cont => exact False.elim h
    | ret u =>
      obtain ⟨v, H', os, bare, un, hok', r', q⟩ := h
      have q' : v = .bl true := q
      subst q'
      have ru : u = Value.bool true := r'
      subst ru
      refine ⟨rfl, OldK.of_keep fun b o e => ?_, os, bare⟩
      cases q : H b with
      | none => exact un.keep b o e q List.not_mem_nil List.not_mem_nil
      | some z =>
        obtain ⟨_, _, hz⟩ := hH b z q
        rw [hz] at q
        have z2 := un.frzs b _ _ q
        have e1 := (hfr b _ q).1
        have e2 := (hok' b _ z2).1
        rw [e] at e1
        rw [e2]
        exact e1.symm
end LD
/-! SetL: set(xs) of a list of ints, and sorted of it. -/
namespace LD
open PySem PySem.Spec PyProof.Rows L2
/-- the new set's object -/
abbrev sob (w : World) : Obj := { cls := .type "set", dict := none, data := .set #[] 0 (.fresh 0 0 (!w.params.followText "set-order")) }
section
variable {P : Program} {w : World} {A : Around} {E : Value → Shared → Prop} {s : Shared}
set_option maxHeartbeats 8000000 in
theorem call_set_lst {l : Addr} {items : Array Value} (ns : List Int) {Q : Value → Shared → Prop} (hh : A.handled = none) (hl : s.heap.IsList l items) (hit : IntsAre items.toList ns) (hb : ns.length + 1 < scanBound)
    (h : ∀ (h' : Heap) (tk c : Nat), SetR w h' s.heap.objs.size (fun j => decide (j ∈ ns)) c → c ≤ ns.length → (∀ b o, s.heap.get? b = some o → h'.get? b = some o) →
      Q (.ref s.heap.objs.size) { s with heap := h', toks := tk }) : wpAny (model P w) A (call (.type "set") [.ref l]) Q E s := by
  have isz : items.size = ns.length := by
    rw [← Array.length_toList]
    exact IntsAre.length hit
  obtain ⟨c, tl, hmro⟩ := F.called_set.mro
  have hmade := F.called_set.made
  have hsub := F.called_set.sub
  have h1 := F.called_set.notType
  have h2 := F.called_set.canCreate
  have hct := F.typeCall_set_1 (.ref l)
  refine wpAny_call (codeAny_of_tree ?_)
  show wpAny _ _ (callAny (.type "set") _) _ _ _
  refine wpAny_pure ⟨Code.quiet_builtin _ (by decide +kernel), codeAny_builtin F.entry_type_call ?_⟩
  rw [Around.under_plain (weight_type_call_type "set" [.ref l] []) rfl]
  repeat (any_goals (first | assumption | wp_step))
  -- the empty set is made
  have mk := code_set_led1 (P := P) (w := w) (A := A.in1) (s := s) (.ref l) (E := E) (Q₁ := fun obj s₁ => obj = .ref s.heap.objs.size ∧ s₁ = { s with heap := s.heap.push (sob w) }) ⟨rfl, rfl⟩
  refine codeAny_mono mk fun r s₁ hr => ?_
  cases r with
  | error e => exact hr
  | ok fl =>
    cases fl with
    | next => exact hr.elim
    | brk => exact hr.elim
    | cont => exact hr.elim
    | ret obj =>
      obtain ⟨rfl, rfl⟩ := hr
      have here : (s.heap.push (sob w)).get? s.heap.objs.size = some (sob w) := Heap.get?_push_size _ rfl
      have ty : Shared.TypeIs { s with heap := s.heap.push (sob w) } (.ref s.heap.objs.size) "set" := ⟨_, here, rfl⟩
      have hli := F.called_set.init.lookup
      have hbi := F.called_set.init.bind (.ref s.heap.objs.size)
      repeat (any_goals (first | assumption | wp_step))
      -- __init__ fills it
      have fill : codeAny (model P w) A.in1 (.call (.builtin "set.__init__") ⟨[.ref s.heap.objs.size, .ref l], []⟩)
          (wants (fun r s₂ => r = .none ∧ ∃ h' tk c, s₂ = { s with heap := h', toks := tk } ∧ SetR w h' s.heap.objs.size (fun j => decide (j ∈ ns)) c ∧ c ≤ ns.length ∧ (∀ b o, s.heap.get? b = some o → h'.get? b = some o)) E)
          { s with heap := s.heap.push (sob w) } := by
        refine codeAny_call_builtin F.called_set.init.plain F.entry_set_init (check_set_init_1 ty ?_)
        obtain ⟨⟨ocls, odict, odata, oslots⟩, hol, hcl, nl, hdl⟩ := hl
        simp only at hcl hdl
        subst hcl hdl
        have got : (s.heap.push (sob w)).get? l = some { cls := .type "list", dict := odict, data := .seq items nl, slots := oslots } := Heap.get?_push_of_some _ hol
        have q1 := F.sub_list_set
        have q2 := F.sub_list_frozenset
        have q3 : (Value.type "list" == Value.type "dict") = false := by decide
        have isl : (s.heap.push (sob w)).IsList l items := ⟨_, got, rfl, nl, rfl⟩
        unfold Builtin.«set.__init__» noKeywords Builtin.Frozenset.updateFrom
        generalize hPI : pyIter = PI
        wp_walk
        subst hPI
        refine wpAny_pyIter_list isl ?_
        refine wpAny_bind (wpAny_runValue ?_)
        have lS : l < s.heap.objs.size := Heap.lt_size hol
        have hh3 : A.in1.in1.in1.handled = none := by simp [hh]
        have neI : l ≠ (s.heap.push (sob w)).objs.size := by
          rw [Heap.size_push]
          exact Nat.ne_of_lt (Nat.lt_succ_of_lt lS)
        have out : s.heap.objs.size ∉ [(s.heap.push (sob w)).objs.size, l] := by
          rw [Heap.size_push]
          intro z
          rcases List.mem_cons.mp z with z | z
          · exact Nat.succ_ne_self _ z.symm
          · exact Nat.ne_of_gt lS (List.mem_singleton.mp z)
        have val : ∀ (i : Nat) (v : Value), items[i]? = some v → ∃ k t, ns[i]? = some k ∧ v = .int k t := fun i v hv => by
          have hi : i < ns.length := by
            rw [← isz]
            exact (Array.getElem?_eq_some_iff.mp hv).1
          obtain ⟨t, e⟩ := PyProof.Rows.IntsAre.int_at hit i v (by rw [Array.getElem?_toList]; exact hv)
          refine ⟨ns[i], t, List.getElem?_eq_getElem hi, ?_⟩
          rw [e, List.getD_eq_getElem?_getD, List.getElem?_eq_getElem hi]
          rfl
        have first0 : ((s.heap.push (sob w)).push { cls := .type "list_iterator", data := .fields #[.ref l, .int 0 0] }).get? s.heap.objs.size = some (sob w) := Heap.get?_push_of_some _ here
        refine set_update_ints ((Walks.list hh3 _ l neI items).toS) s.heap.objs.size out ns isz hb val (items.size - 0) 0 _ (by omega) (Nat.zero_le _)
          ⟨⟨_, Heap.get?_push_size _ rfl, rfl, rfl⟩, isl.push _⟩ ⟨0, Nat.le_refl 0, setR_new_at first0⟩ fun s' c' hm hc' hS' => ?_
        obtain ⟨h', g2, d', tk', os'⟩ := s'
        have eg : g2 = s.gens := hm.gens
        have ed : d' = s.drawn := hm.drawn
        have eo : os' = s.os := hm.os
        subst eg ed eo
        show wpAny _ _ _ _ _ _
        refine wpAny_pure ?_
        show wpAny _ _ (ret Value.none) _ _ _
        rw [isz] at hc'
        refine wpAny_pure ⟨rfl, h', tk', c', rfl, hS', hc', fun b o e => ?_⟩
        have b0 : b < s.heap.objs.size := Heap.lt_size e
        refine hm.heap b o (fun z => ?_) (Heap.get?_push_of_some _ (Heap.get?_push_of_some _ e))
        rcases List.mem_cons.mp z with z | z
        · exact Nat.ne_of_lt b0 z
        · rw [List.mem_singleton.mp z, Heap.size_push] at b0
          exact Nat.lt_irrefl _ (Nat.lt_trans (Nat.lt_succ_self _) b0)
      refine codeAny_mono fill fun r₂ s₂ hr₂ => ?_
      cases r₂ with
      | error e => exact hr₂
      | ok fl₂ =>
        cases fl₂ with
        | next => exact hr₂.elim
        | brk => exact hr₂.elim
        | cont => exact hr₂.elim
        | ret r =>
          obtain ⟨rfl, h', tk, c', rfl, hS', hc', hk'⟩ := hr₂
          repeat (any_goals (first | assumption | wp_step))
          exact h _ _ _ hS' hc' hk'
end
section
variable {X : Cx}
/-- set(xs), xs a list of ints -/
def rSetI (K : PySem.W.Frag) (w : World) : List V → Hp → VK → Prop := fun xs H Q => ∃ (l : Addr) (ns : List Int), xs = [V.ref l] ∧ SqL K H l (ns.map V.int) ∧ ns.length < 64 ∧
  ∀ a c, H a = none → c ≤ ns.length → Q (.ref a) (upd H a (SetO w a (fun j => decide (j ∈ ns)) c))
theorem cr_setI (hc : X.calm = true) : CallR X (.type "set") (rSetI X.K X.w) := by
  intro pins s σ H xs us Q I r h
  obtain ⟨l, ns, rfl, hl, hf, q⟩ := h
  rw [Vals.ref1 r]
  obtain ⟨its, rv, pl, hz⟩ := I.list hl
  have hn : H s.heap.objs.size = none := I.hok.fresh (Nat.le_refl _)
  have sb : scanBound = 4096 := by decide
  refine call_set_lst (P := X.prog) (w := X.w) ns (I.ok.hd hc) pl.isList (by simpa using ints_of_vals rv) (by omega) fun h' tk c R hc' k => ?_
  exact ⟨.ref s.heap.objs.size, upd H s.heap.objs.size (SetO X.w s.heap.objs.size (fun j => decide (j ∈ ns)) c), I.laid (t' := tk) k (Nat.le_refl _) (setO_new R), rfl, q _ c hn hc'⟩
/-- an ascending list is the only one of its members -/
theorem asc_unique : ∀ {xs ys : List Int}, xs.Pairwise (· < ·) → ys.Pairwise (· < ·) → (∀ k : Int, k ∈ xs ↔ k ∈ ys) → xs = ys
  | [], [], _, _, _ => rfl
  | [], y :: ys, _, _, h => absurd ((h y).mpr List.mem_cons_self) (by simp)
  | x :: xs, [], _, _, h => absurd ((h x).mp List.mem_cons_self) (by simp)
  | x :: xs, y :: ys, hx, hy, h => by
    have px := List.pairwise_cons.mp hx
    have py := List.pairwise_cons.mp hy
    have e : x = y := by
      rcases List.mem_cons.mp ((h x).mp List.mem_cons_self) with a | a
      · exact a
      · rcases List.mem_cons.mp ((h y).mpr List.mem_cons_self) with b | b
        · exact b.symm
        · have := px.1 y b
          have := py.1 x a
          omega
    subst e
    rw [asc_unique px.2 py.2 fun k => ?_]
    constructor
    · intro hk
      rcases List.mem_cons.mp ((h k).mp (List.mem_cons_of_mem _ hk)) with a | a
      · have := px.1 k hk
        omega
      · exact a
    · intro hk
      rcases List.mem_cons.mp ((h k).mpr (List.mem_cons_of_mem _ hk)) with a | a
      · have := py.1 k hk
        omega
      · exact a
/-- sorted(set(xs)), told by an ascending list of the same members -/
theorem ev_sortedSet {δ : DE} {ta : TE} {K : PySem.W.Frag} {w : World} {ns ms : List Int} (h : EvD ta δ (iL ns)) (hf : ns.length < 64) (hp : ms.Pairwise (· < ·)) (hm : ∀ k : Int, k ∈ ms ↔ k ∈ ns) :
    EvD (tCB (rSortedSet w) (tCons (tCB (rSetI K w) (tCons ta tNil)) tNil)) δ (iL ms) := fun σ F H s hl Q q => by
  show tCons ta tNil σ H (fun vs H1 => rSetI K w vs H1 fun x H2 => rSortedSet w [x] H2 Q)
  refine ea_cons h ea_nil σ F H s hl _ fun vs F1 H1 e1 r1 => ?_
  obtain ⟨v, rfl, r⟩ := rps1 r1
  obtain ⟨a, xs, rfl, e, rr⟩ := r.lst_of
  rw [rr.ints_of] at e
  refine ⟨a, ns, rfl, SqL.of (e1.s _ _ e), hf, fun b c hb hc => ?_⟩
  refine ⟨b, _, c, rfl, upd_same, by omega, fun ks p asc mem len hp2 => ?_⟩
  have ek : ks = ms := asc_unique asc hp fun k => by
    rw [mem k, hm k]
    exact decide_eq_true_iff
  subst ek
  have x1 := Ext.new (o := SetO w b (fun j => decide (j ∈ ns)) c) e1.s hb
  have x2 := Ext.new (o := .lst (ks.map V.int)) x1.s hp2
  exact q (.ref p) _ _ ((e1.trans x1).trans x2) (.lst upd_same (Rps.of_ints ks))
end
end LD
/-! M1: ladders as functions; the least way is the only one. Plain Lean. -/
set_option maxHeartbeats 4000000
namespace LM
structure Lad where
  early : List Int
  turn : List Int
  rise : Int
deriving DecidableEq
/-- what the round tells, from its own start on -/
def cyc (turn : List Int) (rise : Int) (m : Nat) : Int := turn.getD (m % turn.length) 0 + rise * ((m / turn.length : Nat) : Int)
def tells (l : Lad) (n : Nat) : Int := if n < l.early.length then l.early.getD n 0 else cyc l.turn l.rise (n - l.early.length)

theorem cyc_add {turn : List Int} {rise : Int} (h : 0 < turn.length) (m : Nat) : cyc turn rise (m + turn.length) = cyc turn rise m + rise := by
  unfold cyc
  rw [Nat.add_mod_right, Nat.add_div_right m h, Int.natCast_succ, Int.mul_add, Int.mul_one]
  omega
theorem cyc_mul {turn : List Int} {rise : Int} (h : 0 < turn.length) (m k : Nat) : cyc turn rise (m + turn.length * k) = cyc turn rise m + rise * (k : Int) := by
  induction k with
  | zero => simp
  | succ k ih =>
    rw [Nat.mul_succ, ← Nat.add_assoc, cyc_add h, ih, Int.natCast_succ, Int.mul_add, Int.mul_one]
    omega
theorem cyc_lt {turn : List Int} {rise : Int} {m : Nat} (h : m < turn.length) : cyc turn rise m = turn.getD m 0 := by
  unfold cyc
  rw [Nat.mod_eq_of_lt h, Nat.div_eq_of_lt h]
  simp
theorem tells_ge {l : Lad} {n : Nat} (h : l.early.length ≤ n) : tells l n = cyc l.turn l.rise (n - l.early.length) := by
  unfold tells
  rw [if_neg (by omega)]
theorem tells_lt {l : Lad} {n : Nat} (h : n < l.early.length) : tells l n = l.early.getD n 0 := by
  unfold tells
  rw [if_pos h]
theorem tells_add {l : Lad} (h : 0 < l.turn.length) {n : Nat} (hn : l.early.length ≤ n) : tells l (n + l.turn.length) = tells l n + l.rise := by
  rw [tells_ge hn, tells_ge (by omega), ← cyc_add h]
  congr 1
  omega

/-! ### quasi-periods -/
def QP (c : Nat → Int) (d : Nat) : Prop := ∃ g : Int, ∀ m, c (m + d) = c m + g
theorem QP.zero (c : Nat → Int) : QP c 0 := ⟨0, fun m => by simp⟩
theorem QP.mul {c : Nat → Int} {a : Nat} (h : QP c a) (k : Nat) : QP c (a * k) := by
  obtain ⟨g, hg⟩ := h
  induction k with
  | zero => exact QP.zero c
  | succ k ih =>
    obtain ⟨x, hx⟩ := ih
    refine ⟨x + g, fun m => ?_⟩
    rw [Nat.mul_succ, ← Nat.add_assoc, hg, hx]
    omega
theorem QP.sub {c : Nat → Int} {a b : Nat} (ha : QP c a) (hb : QP c b) (h : b ≤ a) : QP c (a - b) := by
  obtain ⟨g, hg⟩ := ha
  obtain ⟨x, hx⟩ := hb
  refine ⟨g - x, fun m => ?_⟩
  have h1 := hg m
  have h2 := hx (m + (a - b))
  rw [show m + (a - b) + b = m + a by omega] at h2
  omega
theorem QP.gcd {c : Nat → Int} : ∀ (a b : Nat), QP c a → QP c b → QP c (Nat.gcd a b) := by
  intro a b
  induction a, b using Nat.gcd.induction with
  | H0 n =>
    intro _ h
    rw [Nat.gcd_zero_left]
    exact h
  | H1 m n hm ih =>
    intro h1 h2
    rw [Nat.gcd_rec]
    refine ih ?_ h1
    have e : n % m = n - m * (n / m) := by
      have := Nat.div_add_mod n m
      omega
    rw [e]
    exact h2.sub (h1.mul _) (Nat.mul_div_le n m)
theorem QP.of_dvd {c : Nat → Int} {a b : Nat} (h : QP c a) (hd : a ∣ b) : QP c b := by
  obtain ⟨k, rfl⟩ := hd
  exact h.mul k
theorem qp_turn {turn : List Int} {rise : Int} (h : 0 < turn.length) : QP (cyc turn rise) turn.length := ⟨rise, cyc_add h⟩

/-! ### a round that comes again -/
def again (turn : List Int) (rise : Int) (len : Nat) : List Int := turn.drop len ++ (turn.take len).map (· + rise)
def comesAgain (turn : List Int) (rise : Int) (len : Nat) : Bool :=
  decide (rise % ((turn.length / len : Nat) : Int) = 0) && (List.zipWith (fun a b => decide (a + rise / ((turn.length / len : Nat) : Int) = b)) turn (again turn rise len)).all id
theorem again_get {turn : List Int} {rise : Int} {len i : Nat} (hl : len ≤ turn.length) (hi : i < turn.length) : (again turn rise len)[i]? = some (cyc turn rise (i + len)) := by
  unfold again
  by_cases h : i + len < turn.length
  · rw [List.getElem?_append_left (by rw [List.length_drop]; omega), List.getElem?_drop, Nat.add_comm len i, cyc_lt h, List.getD_eq_getElem?_getD, List.getElem?_eq_getElem h]
    rfl
  · rw [List.getElem?_append_right (by rw [List.length_drop]; omega), List.length_drop, List.getElem?_map, List.getElem?_take_of_lt (by omega)]
    have e : i + len = (i + len - turn.length) + turn.length := by omega
    have h2 : i + len - turn.length < turn.length := by omega
    rw [e, cyc_add (by omega), cyc_lt h2, List.getD_eq_getElem?_getD, show i - (turn.length - len) = i + len - turn.length by omega, List.getElem?_eq_getElem h2]
    rfl
theorem again_length {turn : List Int} {rise : Int} {len : Nat} (hl : len ≤ turn.length) : (again turn rise len).length = turn.length := by
  unfold again
  rw [List.length_append, List.length_map, List.length_drop, List.length_take]
  omega
theorem comesAgain_iff0 {turn : List Int} {rise : Int} {len : Nat} (hl : len ≤ turn.length) :
    comesAgain turn rise len = true ↔ rise % ((turn.length / len : Nat) : Int) = 0 ∧ ∀ i, i < turn.length → cyc turn rise i + rise / ((turn.length / len : Nat) : Int) = cyc turn rise (i + len) := by
  unfold comesAgain
  rw [Bool.and_eq_true, decide_eq_true_iff, List.all_eq_true]
  refine and_congr Iff.rfl ⟨fun h i hi => ?_, fun h b hb => ?_⟩
  · have hm : (List.zipWith (fun a b => decide (a + rise / ((turn.length / len : Nat) : Int) = b)) turn (again turn rise len))[i]? = some (decide (cyc turn rise i + rise / ((turn.length / len : Nat) : Int) = cyc turn rise (i + len))) := by
      rw [List.getElem?_zipWith, again_get hl hi, List.getElem?_eq_getElem hi, cyc_lt hi, List.getD_eq_getElem?_getD, List.getElem?_eq_getElem hi]
      rfl
    exact of_decide_eq_true (h _ (List.mem_of_getElem? hm))
  · obtain ⟨i, hi⟩ := List.getElem?_of_mem hb
    have hlt : i < turn.length := by
      have := (List.getElem?_eq_some_iff.mp hi).1
      rw [List.length_zipWith] at this
      omega
    rw [List.getElem?_zipWith, again_get hl hlt, List.getElem?_eq_getElem hlt] at hi
    have h2 := h i hlt
    rw [cyc_lt hlt, List.getD_eq_getElem?_getD, List.getElem?_eq_getElem hlt] at h2
    have hi' : decide (turn[i] + rise / ((turn.length / len : Nat) : Int) = cyc turn rise (i + len)) = b := Option.some.inj hi
    rw [← hi']
    exact decide_eq_true h2
theorem qp_gain {turn : List Int} {rise : Int} {len : Nat} (ht : 0 < turn.length) (hd : len ∣ turn.length) {g : Int} (hg : ∀ m, cyc turn rise (m + len) = cyc turn rise m + g) : ((turn.length / len : Nat) : Int) * g = rise := by
  have hit : ∀ k m, cyc turn rise (m + len * k) = cyc turn rise m + g * (k : Int) := by
    intro k
    induction k with
    | zero => intro m; simp
    | succ k ih =>
      intro m
      rw [Nat.mul_succ, ← Nat.add_assoc, hg, ih, Int.natCast_succ, Int.mul_add, Int.mul_one]
      omega
  have h1 := hit (turn.length / len) 0
  rw [Nat.mul_div_cancel' hd] at h1
  have h2 := cyc_add (rise := rise) ht 0
  rw [h1] at h2
  rw [Int.mul_comm]
  omega
theorem comesAgain_iff {turn : List Int} {rise : Int} {len : Nat} (ht : 0 < turn.length) (h0 : 0 < len) (hd : len ∣ turn.length) : comesAgain turn rise len = true ↔ QP (cyc turn rise) len := by
  have hl : len ≤ turn.length := Nat.le_of_dvd ht hd
  have tpos : 0 < turn.length / len := Nat.div_pos hl h0
  rw [comesAgain_iff0 hl]
  constructor
  · rintro ⟨_, h⟩
    refine ⟨rise / ((turn.length / len : Nat) : Int), fun m => ?_⟩
    have e := Nat.mod_add_div m turn.length
    have hm : m % turn.length < turn.length := Nat.mod_lt _ ht
    have h2 := h _ hm
    rw [← e, show m % turn.length + turn.length * (m / turn.length) + len = m % turn.length + len + turn.length * (m / turn.length) by omega, cyc_mul ht, cyc_mul ht, ← h2]
    omega
  · rintro ⟨g, hg⟩
    have e := qp_gain ht hd hg
    have tne : ((turn.length / len : Nat) : Int) ≠ 0 := by omega
    refine ⟨?_, fun i _ => ?_⟩
    · rw [← e]
      exact Int.mul_emod_right _ _
    · rw [hg i, ← e, Int.mul_ediv_cancel_left _ tne]

/-! ### the least length -/
def leastLen (turn : List Int) (rise : Int) : Nat := ((List.range (turn.length + 1)).find? fun d => decide (0 < d) && decide (d ∣ turn.length) && comesAgain turn rise d).getD turn.length
/-- prime -/
def isPrime (p : Nat) : Prop := 2 ≤ p ∧ ∀ d, d ∣ p → d = 1 ∨ d = p
theorem prime_factor : ∀ n : Nat, 2 ≤ n → ∃ p, isPrime p ∧ p ∣ n := by
  intro n
  induction n using Nat.strongRecOn with
  | ind n ih =>
    intro h
    by_cases hp : isPrime n
    · exact ⟨n, hp, Nat.dvd_refl n⟩
    · have : ∃ d, d ∣ n ∧ d ≠ 1 ∧ d ≠ n := Classical.byContradiction fun z => hp ⟨h, fun d hd => Classical.byContradiction fun y => z ⟨d, hd, fun e => y (.inl e), fun e => y (.inr e)⟩⟩
      obtain ⟨d, hd, h1, h2⟩ := this
      have hle : d ≤ n := Nat.le_of_dvd (by omega) hd
      have hpos : 0 < d := Nat.pos_of_dvd_of_pos hd (by omega)
      obtain ⟨p, hp, hpd⟩ := ih d (by omega) (by omega)
      exact ⟨p, hp, Nat.dvd_trans hpd hd⟩
/-- a quasi-period that no prime makes shorter divides all -/
theorem greedy_dvd {c : Nat → Int} {L d : Nat} (h0 : 0 < L) (hL : QP c L) (hp : ∀ p, isPrime p → p ∣ L → ¬ QP c (L / p)) (hd : QP c d) : L ∣ d := by
  have hg : QP c (Nat.gcd L d) := QP.gcd L d hL hd
  have gL : Nat.gcd L d ∣ L := Nat.gcd_dvd_left L d
  by_cases e : Nat.gcd L d = L
  · rw [← e]
    exact Nat.gcd_dvd_right L d
  · exfalso
    have gpos : 0 < Nat.gcd L d := Nat.pos_of_dvd_of_pos gL h0
    obtain ⟨k, hk⟩ := gL
    have k2 : 2 ≤ k := by
      rcases Nat.lt_or_ge k 2 with z | z
      · have : k = 0 ∨ k = 1 := by omega
        rcases this with y | y
        · rw [y] at hk; omega
        · rw [y, Nat.mul_one] at hk; exact absurd hk.symm e
      · exact z
    obtain ⟨p, pp, q, hq⟩ := prime_factor k k2
    have ppos : 0 < p := by have := pp.1; omega
    have e2 : L = p * (Nat.gcd L d * q) := by
      refine hk.trans ?_
      rw [hq]
      generalize Nat.gcd L d = x
      rw [← Nat.mul_assoc, ← Nat.mul_assoc, Nat.mul_comm x p]
    have e3 : L / p = Nat.gcd L d * q := by
      conv => lhs; rw [e2]
      exact Nat.mul_div_cancel_left _ ppos
    refine hp p pp ⟨_, e2⟩ ?_
    rw [e3]
    exact hg.mul q
theorem leastLen_prop {turn : List Int} {rise : Int} (ht : 0 < turn.length) : 0 < leastLen turn rise ∧ leastLen turn rise ∣ turn.length ∧ QP (cyc turn rise) (leastLen turn rise) ∧ ∀ d, 0 < d → d ∣ turn.length → QP (cyc turn rise) d → leastLen turn rise ≤ d := by
  unfold leastLen
  cases e : (List.range (turn.length + 1)).find? fun d => decide (0 < d) && decide (d ∣ turn.length) && comesAgain turn rise d with
  | none =>
    exfalso
    have h := List.find?_eq_none.mp e turn.length (List.mem_range.mpr (Nat.lt_succ_self _))
    apply h
    simp only [Bool.and_eq_true, decide_eq_true_eq]
    exact ⟨⟨ht, Nat.dvd_refl _⟩, (comesAgain_iff ht ht (Nat.dvd_refl _)).mpr (qp_turn ht)⟩
  | some L =>
    have h := List.find?_some e
    simp only [Bool.and_eq_true, decide_eq_true_eq] at h
    refine ⟨h.1.1, h.1.2, (comesAgain_iff ht h.1.1 h.1.2).mp h.2, fun d h0 hd hq => ?_⟩
    show L ≤ d
    rcases Nat.lt_or_ge d L with z | z
    · exfalso
      rw [List.find?_range_eq_some] at e
      have := e.2.2 d z
      simp only [Bool.not_eq_true', Bool.and_eq_false_iff, decide_eq_false_iff_not] at this
      rcases this with (y | y) | y
      · exact y h0
      · exact y hd
      · rw [(comesAgain_iff ht h0 hd).mpr hq] at y
        cases y
    · exact z
/-- what the program's loop over the primes finds is the least length -/
theorem greedy_is {turn : List Int} {rise : Int} {L : Nat} (ht : 0 < turn.length) (h0 : 0 < L) (hd : L ∣ turn.length) (hL : QP (cyc turn rise) L) (hp : ∀ p, isPrime p → p ∣ L → ¬ QP (cyc turn rise) (L / p)) : leastLen turn rise = L := by
  obtain ⟨a, b, c, d⟩ := leastLen_prop (rise := rise) ht
  have h1 := d L h0 hd hL
  have h2 := Nat.le_of_dvd a (greedy_dvd h0 hL hp c)
  omega
/-- the least length divides every quasi-period -/
theorem leastLen_dvd {turn : List Int} {rise : Int} (ht : 0 < turn.length) {d : Nat} (hd : QP (cyc turn rise) d) : leastLen turn rise ∣ d := by
  obtain ⟨a, b, c, m⟩ := leastLen_prop (rise := rise) ht
  refine greedy_dvd a c (fun p hp hpl hq => ?_) hd
  obtain ⟨k, hk⟩ := hpl
  have ppos : 0 < p := by have := hp.1; omega
  have e : leastLen turn rise / p = k := by
    rw [hk]
    exact Nat.mul_div_cancel_left _ ppos
  rw [e] at hq
  have kpos : 0 < k := by
    rcases Nat.eq_zero_or_pos k with z | z
    · rw [z] at hk; omega
    · exact z
  have kd : k ∣ turn.length := Nat.dvd_trans ⟨p, by rw [hk, Nat.mul_comm]⟩ b
  have := m k kpos kd hq
  have h2 : p * k ≥ 2 * k := Nat.mul_le_mul_right k hp.1
  omega

/-! ### the least way -/
/-- back from a beginning of k days -/
def back (f : Nat → Int) (L : Nat) (g : Int) : Nat → Nat
  | 0 => 0
  | k + 1 => if f k + g = f (k + L) then back f L g k else k + 1
theorem back_le (f : Nat → Int) (L : Nat) (g : Int) : ∀ k, back f L g k ≤ k
  | 0 => Nat.le_refl 0
  | k + 1 => by
    unfold back
    split
    · exact Nat.le_succ_of_le (back_le f L g k)
    · exact Nat.le_refl _
theorem back_from (f : Nat → Int) (L : Nat) (g : Int) : ∀ k n, back f L g k ≤ n → n < k → f (n + L) = f n + g
  | 0, n, _, h => by omega
  | k + 1, n, h1, h2 => by
    unfold back at h1
    split at h1
    · rename_i e
      by_cases hn : n = k
      · subst hn
        exact e.symm
      · exact back_from f L g k n h1 (by omega)
    · omega
theorem back_stop (f : Nat → Int) (L : Nat) (g : Int) : ∀ k, back f L g k = 0 ∨ ∃ j, back f L g k = j + 1 ∧ f j + g ≠ f (j + L)
  | 0 => .inl rfl
  | k + 1 => by
    unfold back
    split
    · exact back_stop f L g k
    · rename_i h
      exact .inr ⟨k, rfl, h⟩
def gainOf (l : Lad) : Int := l.rise * (leastLen l.turn l.rise : Int) / (l.turn.length : Int)
def beginOf (l : Lad) : Nat := back (tells l) (leastLen l.turn l.rise) (gainOf l) l.early.length
def leastWay (l : Lad) : Lad := ⟨(List.range (beginOf l)).map (tells l), (List.range (leastLen l.turn l.rise)).map fun i => tells l (beginOf l + i), gainOf l⟩
theorem gain_is {l : Lad} (ht : 0 < l.turn.length) (m : Nat) : cyc l.turn l.rise (m + leastLen l.turn l.rise) = cyc l.turn l.rise m + gainOf l := by
  obtain ⟨a, b, ⟨g, hg⟩, _⟩ := leastLen_prop (rise := l.rise) ht
  have e := qp_gain ht b hg
  have e2 : gainOf l = g := by
    unfold gainOf
    obtain ⟨k, hk⟩ := b
    have kk : l.turn.length / leastLen l.turn l.rise = k := by
      rw [hk]
      exact Nat.mul_div_cancel_left _ a
    rw [kk] at e
    have hne : (l.turn.length : Int) ≠ 0 := by omega
    have e3 : l.rise * (leastLen l.turn l.rise : Int) = (l.turn.length : Int) * g := by
      generalize leastLen l.turn l.rise = x at hk
      rw [hk, ← e, Int.natCast_mul, Int.mul_assoc, Int.mul_assoc, Int.mul_comm g (x : Int), ← Int.mul_assoc, ← Int.mul_assoc, Int.mul_comm (k : Int) (x : Int)]
    rw [e3, Int.mul_ediv_cancel_left _ hne]
  rw [hg, e2]
theorem tells_from {l : Lad} (ht : 0 < l.turn.length) {n : Nat} (hn : beginOf l ≤ n) : tells l (n + leastLen l.turn l.rise) = tells l n + gainOf l := by
  by_cases h : n < l.early.length
  · exact back_from _ _ _ _ _ hn h
  · rw [tells_ge (by omega), tells_ge (by omega), ← gain_is ht]
    congr 1
    omega
theorem map_range_getD (f : Nat → Int) (n i : Nat) (h : i < n) : ((List.range n).map f).getD i 0 = f i := by
  rw [List.getD_eq_getElem?_getD, List.getElem?_map, List.getElem?_range h]
  rfl
/-- a ladder of f's numbers tells f, where f goes on so -/
theorem tells_of {f : Nat → Int} {b L : Nat} {g : Int} (h0 : 0 < L) (h : ∀ n, b ≤ n → f (n + L) = f n + g) (n : Nat) : tells ⟨(List.range b).map f, (List.range L).map (fun i => f (b + i)), g⟩ n = f n := by
  have lb : ((List.range b).map f).length = b := by rw [List.length_map, List.length_range]
  have lL : ((List.range L).map (fun i => f (b + i))).length = L := by rw [List.length_map, List.length_range]
  by_cases hn : n < b
  · rw [tells_lt (by show n < ((List.range b).map f).length; omega)]
    exact map_range_getD f b n hn
  · rw [tells_ge (by show ((List.range b).map f).length ≤ n; omega)]
    show cyc ((List.range L).map (fun i => f (b + i))) g (n - ((List.range b).map f).length) = f n
    unfold cyc
    rw [lb, lL, map_range_getD _ _ _ (Nat.mod_lt _ h0)]
    have it : ∀ k m, b ≤ m → f (m + L * k) = f m + g * (k : Int) := by
      intro k
      induction k with
      | zero => intro m _; simp
      | succ k ih =>
        intro m hm
        rw [Nat.mul_succ, ← Nat.add_assoc, h _ (by omega), ih m hm, Int.natCast_succ, Int.mul_add, Int.mul_one]
        omega
    have e := Nat.mod_add_div (n - b) L
    rw [← it ((n - b) / L) (b + (n - b) % L) (by omega)]
    congr 1
    omega
theorem leastWay_tells {l : Lad} (ht : 0 < l.turn.length) (n : Nat) : tells (leastWay l) n = tells l n :=
  tells_of (leastLen_prop (rise := l.rise) ht).1 (fun _ hn => tells_from ht hn) n
theorem leastWay_turn {l : Lad} : (leastWay l).turn.length = leastLen l.turn l.rise := by
  unfold leastWay
  rw [List.length_map, List.length_range]
theorem leastWay_early {l : Lad} : (leastWay l).early.length = beginOf l := by
  unfold leastWay
  rw [List.length_map, List.length_range]
/-- an eventual quasi-period of what is told is one of the round -/
theorem qp_of_tells {l : Lad} (ht : 0 < l.turn.length) {d N : Nat} {g : Int} (h : ∀ m, N ≤ m → tells l (m + d) = tells l m + g) (m : Nat) : cyc l.turn l.rise (m + d) = cyc l.turn l.rise m + g := by
  have big : N ≤ l.early.length + m + l.turn.length * N := by
    have : 1 * N ≤ l.turn.length * N := Nat.mul_le_mul_right N ht
    omega
  have h1 := h _ big
  rw [tells_ge (by omega), tells_ge (by omega)] at h1
  rw [show l.early.length + m + l.turn.length * N + d - l.early.length = m + d + l.turn.length * N by omega, show l.early.length + m + l.turn.length * N - l.early.length = m + l.turn.length * N by omega, cyc_mul ht, cyc_mul ht] at h1
  omega
/-- ladders that tell the same have the same least way -/
theorem leastWay_congr {l k : Lad} (hl : 0 < l.turn.length) (hk : 0 < k.turn.length) (h : ∀ n, tells l n = tells k n) : leastWay l = leastWay k := by
  have cross : ∀ {l k : Lad}, 0 < l.turn.length → 0 < k.turn.length → (∀ n, tells l n = tells k n) → ∀ m, cyc k.turn k.rise (m + leastLen l.turn l.rise) = cyc k.turn k.rise m + gainOf l := by
    intro l k hl hk h m
    refine qp_of_tells hk (N := beginOf l) (fun m hm => ?_) m
    rw [← h, ← h]
    exact tells_from hl hm
  have c1 := cross hl hk h
  have c2 := cross hk hl fun n => (h n).symm
  have eL : leastLen l.turn l.rise = leastLen k.turn k.rise := by
    have d1 := leastLen_dvd hk ⟨_, c1⟩
    have d2 := leastLen_dvd hl ⟨_, c2⟩
    exact Nat.dvd_antisymm d2 d1
  have eg : gainOf l = gainOf k := by
    have q1 := c1 0
    have q2 := gain_is hk 0
    rw [eL] at q1
    omega
  have ef : tells l = tells k := funext h
  have eb : beginOf l = beginOf k := by
    have half : ∀ {l k : Lad}, 0 < l.turn.length → 0 < k.turn.length → tells l = tells k → leastLen l.turn l.rise = leastLen k.turn k.rise → gainOf l = gainOf k → beginOf l ≤ beginOf k := by
      intro l k hl hk ef eL eg
      rcases back_stop (tells l) (leastLen l.turn l.rise) (gainOf l) l.early.length with z | ⟨j, hj, hne⟩
      · have z' : beginOf l = 0 := z
        omega
      · have hj' : beginOf l = j + 1 := hj
        rw [hj']
        rcases Nat.lt_or_ge j (beginOf k) with y | y
        · exact y
        · exfalso
          have := tells_from hk y
          rw [← ef, ← eL, ← eg] at this
          exact hne this.symm
    exact Nat.le_antisymm (half hl hk ef eL eg) (half hk hl ef.symm eL.symm eg.symm)
  unfold leastWay
  rw [eb, eL, eg, ef]
end LM
/-! Specs: what each def makes of its arguments. -/
namespace LM
structure DSet where
  early : List Int
  first : Nat
  len : Nat
  found : List Int
deriving DecidableEq
/-- 1 of a day of the set, 0 of others -/
def bit (s : DSet) (n : Nat) : Int := if n < s.first then (if (n : Int) ∈ s.early then 1 else 0) else (if (((n - s.first) % s.len : Nat) : Int) ∈ s.found then 1 else 0)
/-- an ascending list within bounds -/
def Asc (xs : List Int) (n : Nat) : Prop := xs.Pairwise (· < ·) ∧ ∀ x ∈ xs, 0 ≤ x ∧ x < (n : Int)
structure SetOk (s : DSet) : Prop where
  pos : 0 < s.len
  early : Asc s.early s.first
  found : Asc s.found s.len
structure SetFit (s : DSet) (a b : Nat) : Prop where
  ok : SetOk s
  first : s.first ≤ a
  len : s.len ≤ b
def fallsB (ns : List Int) : Bool := (List.zipWith (fun a b => decide (a ≤ b)) ns (ns.drop 1)).all id
def risesB (ns : List Int) : Bool := (List.zipWith (fun a b => decide (a < b)) ns (ns.drop 1)).all id
def ladList (l : Lad) : List Int := [0] ++ l.early ++ l.turn ++ [l.turn.getD 0 0 + l.rise]
/-- a ladder that need_ladder lets pass, of bounded size -/
structure LadFit (l : Lad) (e t : Nat) : Prop where
  pos : 0 < l.turn.length
  early : l.early.length ≤ e
  turn : l.turn.length ≤ t
  r0 : 0 ≤ l.rise
  r1 : l.rise < 1099511627776
structure LadOk (l : Lad) (e t : Nat) : Prop extends LadFit l e t where
  falls : fallsB (ladList l) = true
/-- the first days' numbers -/
def firstN (f : Nat → Int) (n : Nat) : List Int := (List.range n).map f
def primeB (p : Nat) : Bool := decide (2 ≤ p) && (List.range p).all fun d => decide (d < 2) || !decide (d ∣ p)
def primeParts (n : Nat) : List Int := ((List.range (n + 1)).filter fun p => primeB p && decide (p ∣ n)).map fun p : Nat => (p : Int)
def rowLad (r : List Int × List Int) : Lad := ⟨r.1, r.2, 0⟩
def setRow (s : DSet) : List Int × List Int := (firstN (bit s) s.first, firstN (fun i => bit s (s.first + i)) s.len)
def ones (xs : List Int) : List Int := ((List.range xs.length).filter fun i => decide (xs.getD i 0 = 1)).map fun i : Nat => (i : Int)
def setFrom (r : List Int × List Int) : DSet := ⟨ones (leastWay (rowLad r)).early, (leastWay (rowLad r)).early.length, (leastWay (rowLad r)).turn.length, ones (leastWay (rowLad r)).turn⟩
/-- how many days are less than n -/
def cnt (s : DSet) : Nat → Int
  | 0 => 0
  | n + 1 => cnt s n + bit s n
def cntLad (s : DSet) : Lad := ⟨firstN (cnt s) s.first, firstN (fun i => cnt s (s.first + i)) s.len, (firstN (fun i => bit s (s.first + i)) s.len).sum⟩
def daysSet (ns : List Int) : DSet := ⟨ns, (if ns = [] then 0 else (ns.getD (ns.length - 1) 0 + 1).toNat), 1, []⟩
def firstDay (s : DSet) : Option Nat := match s.early with
  | x :: _ => some x.toNat
  | [] => match s.found with
    | y :: _ => some (s.first + y.toNat)
    | [] => none
/-- what another ladder tells of days so many later -/
def shiftLad (d : Nat) (l : Lad) : Lad := ⟨firstN (fun n => tells l (d + n)) (l.early.length - d), firstN (fun i => tells l (d + (l.early.length - d + i))) l.turn.length, l.rise⟩
def addLad (l k : Lad) : Lad :=
  ⟨firstN (fun n => tells l n + tells k n) (max l.early.length k.early.length),
   firstN (fun i => tells l (max l.early.length k.early.length + i) + tells k (max l.early.length k.early.length + i)) (Nat.lcm l.turn.length k.turn.length),
   l.rise * ((Nat.lcm l.turn.length k.turn.length / l.turn.length : Nat) : Int) + k.rise * ((Nat.lcm l.turn.length k.turn.length / k.turn.length : Nat) : Int)⟩
def unlike (f g : Nat → Int) (n : Nat) : Option Nat := (List.range n).find? fun i => !decide (f i = g i)
/-- two sets' rows put together by f -/
def mixRow (f : Int → Int → Int) (s t : DSet) : List Int × List Int :=
  (firstN (fun n => f (bit s n) (bit t n)) (max s.first t.first), firstN (fun i => f (bit s (max s.first t.first + i)) (bit t (max s.first t.first + i))) (Nat.lcm s.len t.len))
def bothS (s t : DSet) : DSet := setFrom (mixRow (fun a b => a * b) s t)
def eitherS (s t : DSet) : DSet := setFrom (mixRow (fun a b => max a b) s t)
def butS (s t : DSet) : DSet := setFrom (mixRow (fun a b => a * (1 - b)) s t)
def othersS (s : DSet) : DSet := setFrom ((setRow s).1.map (1 - ·), (setRow s).2.map (1 - ·))
def leastS (s : DSet) : DSet := setFrom (setRow s)
def laterS (k : Nat) (s : DSet) : DSet := setFrom (List.replicate k 0 ++ (setRow s).1, (setRow s).2)
def earlierS (k : Nat) (s : DSet) : DSet := setFrom ((setRow s).1.drop k, (setRow s).2.drop ((k - s.first) % s.len) ++ (setRow s).2.take ((k - s.first) % s.len))
def countsL (s : DSet) : Lad := leastWay (cntLad s)
def meetS (s t : DSet) : Option Nat := (List.range (max s.first t.first + Nat.lcm s.len t.len)).find? fun n => decide (bit s n = 1 ∧ bit t n = 1)
end LM

namespace LD
open PySem PySem.Spec PyProof.Rows L2 LM
def setD (s : DSet) : D := .tuple [iL s.early, .int (s.first : Int), .int (s.len : Int), iL s.found]
def ladD (l : Lad) : D := .tuple [iL l.early, iL l.turn, .int l.rise]
def rowD (r : List Int × List Int) : D := .tuple [iL r.1, iL r.2]
def optD : Option Nat → D
  | none => .none
  | some n => .int (n : Int)
/-- bounds under which every list of the program stays short -/
abbrev BE : Nat := 1000
abbrev BT : Nat := 1000000

def S_never_falls : List D → D → Prop := fun ds r => ∃ ns : List Int, ds = [iL ns] ∧ ns.length < sizeLine ∧ r = .bool (fallsB ns)
def S_always_rises : List D → D → Prop := fun ds r => ∃ ns : List Int, ds = [iL ns] ∧ ns.length < sizeLine ∧ r = .bool (risesB ns)
def S_is_ladder : List D → D → Prop := fun ds r => ∃ l, ds = [ladD l] ∧ LadOk l BE BT ∧ r = .bool true
def S_is_set : List D → D → Prop := fun ds r => ∃ s, ds = [setD s] ∧ SetFit s BE BT ∧ r = .bool true
def S_need_ladder : List D → D → Prop := fun ds r => ∃ l, ds = [ladD l] ∧ LadOk l BE BT ∧ r = .none
def S_need_set : List D → D → Prop := fun ds r => ∃ s, ds = [setD s] ∧ SetFit s BE BT ∧ r = .none
def S_need_number : List D → D → Prop := fun ds r => ∃ n k : Int, ds = [.int n, .int k] ∧ k ≤ n ∧ r = .none
def S_common_divisor : List D → D → Prop := fun ds r => ∃ a b : Nat, ds = [.int (a : Int), .int (b : Int)] ∧ r = .int (Nat.gcd a b : Nat)
def S_common_multiple : List D → D → Prop := fun ds r => ∃ a b : Nat, ds = [.int (a : Int), .int (b : Int)] ∧ 0 < a ∧ 0 < b ∧ a < 1000000000 ∧ b < 1000000000 ∧ r = .int (Nat.lcm a b : Nat)
def S_prime_parts : List D → D → Prop := fun ds r => ∃ n : Nat, ds = [.int (n : Int)] ∧ 0 < n ∧ n ≤ BT ∧ r = iL (primeParts n)
def S_number_at : List D → D → Prop := fun ds r => ∃ (l : Lad) (n : Nat), ds = [ladD l, .int (n : Int)] ∧ LadFit l BT BT ∧ r = .int (tells l n)
def S_first_numbers : List D → D → Prop := fun ds r => ∃ (l : Lad) (n : Nat), ds = [ladD l, .int (n : Int)] ∧ LadFit l BT BT ∧ n ≤ 10000000 ∧ r = iL (firstN (tells l) n)
def S_comes_again : List D → D → Prop := fun ds r => ∃ (t : List Int) (k : Int) (n : Nat), ds = [iL t, .int k, .int (n : Int)] ∧ 0 < n ∧ n ≤ t.length ∧ t.length ≤ BT ∧ r = .bool (comesAgain t k n)
def S_least_length : List D → D → Prop := fun ds r => ∃ (t : List Int) (k : Int), ds = [iL t, .int k] ∧ 0 < t.length ∧ t.length ≤ BT ∧ r = .int (leastLen t k : Nat)
def S_least_way : List D → D → Prop := fun ds r => ∃ l, ds = [ladD l] ∧ LadFit l BT BT ∧ r = ladD (leastWay l)
def S_least_row : List D → D → Prop := fun ds r => ∃ p : List Int × List Int, ds = [rowD p] ∧ LadFit (rowLad p) BT BT ∧ r = rowD ((leastWay (rowLad p)).early, (leastWay (rowLad p)).turn)
def S_first_of_row : List D → D → Prop := fun ds r => ∃ (p : List Int × List Int) (n : Nat), ds = [rowD p, .int (n : Int)] ∧ LadFit (rowLad p) BT BT ∧ n ≤ 10000000 ∧ r = iL (firstN (tells (rowLad p)) n)
def S_set_row : List D → D → Prop := fun ds r => ∃ s, ds = [setD s] ∧ SetFit s BE BT ∧ r = rowD (setRow s)
def S_set_from : List D → D → Prop := fun ds r => ∃ p : List Int × List Int, ds = [rowD p] ∧ LadFit (rowLad p) BT BT ∧ r = setD (setFrom p)
def S_set_of_days : List D → D → Prop := fun ds r => ∃ ns : List Int, ds = [iL ns] ∧ ns.Pairwise (· < ·) ∧ ns.length < 64 ∧ (∀ x ∈ ns, 0 ≤ x) ∧ r = setD (daysSet ns)
def S_next_of : List D → D → Prop := fun ds r => ∃ s, ds = [setD s, .int 0] ∧ SetFit s BE BT ∧ r = optD (firstDay s)
def S_counts_of : List D → D → Prop := fun ds r => ∃ s, ds = [setD s] ∧ SetFit s BE BT ∧ r = ladD (countsL s)
def S_first_at_least : List D → D → Prop := fun ds r => ∃ d n : Nat, ds = [ladD ⟨[], [(d : Int)], 1⟩, .int (n : Int)] ∧ r = .int ((n - d : Nat) : Int)
def S_joined_ladders : List D → D → Prop := fun ds r => ∃ (d : Nat) (l : Lad), ds = [ladD ⟨[], [(d : Int)], 1⟩, ladD l] ∧ LadFit l BE BT ∧ r = ladD (leastWay (shiftLad d l))
def S_common_way : List D → D → Prop := fun ds r => ∃ l k : Lad, ds = [ladD l, ladD k] ∧ LadFit l BE BT ∧ LadFit k BE BT ∧ r = .tuple [.int (max l.early.length k.early.length : Nat), .int (Nat.lcm l.turn.length k.turn.length : Nat)]
def S_risen : List D → D → Prop := fun ds r => ∃ (l : Lad) (n : Nat), ds = [ladD l, .int (n : Int)] ∧ LadFit l BE BT ∧ r = .int (l.rise * ((n / l.turn.length : Nat) : Int))
/-- both ladders fit, and so does the round that they have in common -/
def TwoFit (l k : Lad) : Prop := LadFit l BE BT ∧ LadFit k BE BT ∧ Nat.lcm l.turn.length k.turn.length ≤ BT
def S_added_ladders : List D → D → Prop := fun ds r => ∃ l k : Lad, ds = [ladD l, ladD k] ∧ TwoFit l k ∧ (addLad l k).rise < 1099511627776 ∧ r = ladD (leastWay (addLad l k))
def S_unlike_day : List D → D → Prop := fun ds r => ∃ l k : Lad, ds = [ladD l, ladD k] ∧ LadFit l BE BT ∧ LadFit k BE BT ∧ r = optD (unlike (tells l) (tells k) (max l.early.length k.early.length + l.turn.length + k.turn.length + 1))
def S_less_day : List D → D → Prop := fun ds r => ∃ l k : Lad, ds = [ladD l, ladD k] ∧ TwoFit l k ∧ (∀ n, tells k n ≤ tells l n) ∧ r = .none
def S_least_set : List D → D → Prop := fun ds r => ∃ s, ds = [setD s] ∧ SetFit s BE BT ∧ r = setD (leastS s)
def S_set_of : List D → D → Prop := S_set_of_days
def TwoSets (s t : DSet) : Prop := SetFit s BE BT ∧ SetFit t BE BT ∧ Nat.lcm s.len t.len ≤ BT
def S_common_rows : List D → D → Prop := fun ds r => ∃ s t : DSet, ds = [setD s, setD t] ∧ TwoSets s t ∧
  r = .tuple [.int (max s.first t.first : Nat), iL (firstN (bit s) (max s.first t.first + Nat.lcm s.len t.len)), iL (firstN (bit t) (max s.first t.first + Nat.lcm s.len t.len))]
def S_need_two_days : List D → D → Prop := fun ds r => ∃ s t : DSet, ds = [setD s, setD t] ∧ SetFit s BE BT ∧ SetFit t BE BT ∧ r = .none
def S_both : List D → D → Prop := fun ds r => ∃ s t : DSet, ds = [setD s, setD t] ∧ TwoSets s t ∧ r = setD (bothS s t)
def S_either : List D → D → Prop := fun ds r => ∃ s t : DSet, ds = [setD s, setD t] ∧ TwoSets s t ∧ r = setD (eitherS s t)
def S_but : List D → D → Prop := fun ds r => ∃ s t : DSet, ds = [setD s, setD t] ∧ TwoSets s t ∧ r = setD (butS s t)
def S_others : List D → D → Prop := fun ds r => ∃ s, ds = [setD s] ∧ SetFit s BE BT ∧ r = setD (othersS s)
def S_moved : List D → D → Prop := fun ds r => ∃ (s : DSet) (k : Nat), SetFit s BE BT ∧ k ≤ BE ∧ ((ds = [setD s, .int (k : Int)] ∧ r = setD (laterS k s)) ∨ (0 < k ∧ ds = [setD s, .int (-(k : Int))] ∧ r = setD (earlierS k s)))
def S_first_apart : List D → D → Prop := fun ds r => ∃ s t : DSet, ds = [setD s, setD t] ∧ SetFit s BE BT ∧ SetFit t BE BT ∧ r = optD (unlike (bit s) (bit t) (max s.first t.first + s.len + t.len))
def S_meeting : List D → D → Prop := fun ds r => ∃ s t : DSet, ds = [setD s, setD t] ∧ TwoSets s t ∧ r = optD (meetS s t)
def S_next_day : List D → D → Prop := S_next_of
def S_counts : List D → D → Prop := S_counts_of
def S_need_two_ladders : List D → D → Prop := fun ds r => ∃ l k : Lad, ds = [ladD l, ladD k] ∧ LadOk l BE BT ∧ LadOk k BE BT ∧ r = .none
def S_value : List D → D → Prop := fun ds r => ∃ (l : Lad) (n : Nat), ds = [ladD l, .int (n : Int)] ∧ LadOk l BE BT ∧ r = .int (tells l n)
def S_joined : List D → D → Prop := fun ds r => ∃ (d : Nat) (l : Lad), ds = [ladD ⟨[], [(d : Int)], 1⟩, ladD l] ∧ LadOk l BE BT ∧ r = ladD (leastWay (shiftLad d l))
def S_plus : List D → D → Prop := fun ds r => ∃ l k : Lad, ds = [ladD l, ladD k] ∧ LadOk l BE BT ∧ LadOk k BE BT ∧ Nat.lcm l.turn.length k.turn.length ≤ BT ∧ (addLad l k).rise < 1099511627776 ∧ r = ladD (leastWay (addLad l k))
def S_alike : List D → D → Prop := fun ds r => ∃ l k : Lad, ds = [ladD l, ladD k] ∧ LadOk l BE BT ∧ LadOk k BE BT ∧ r = .bool (unlike (tells l) (tells k) (max l.early.length k.early.length + l.turn.length + k.turn.length + 1)).isNone
def S_first_unlike : List D → D → Prop := fun ds r => ∃ l k : Lad, ds = [ladD l, ladD k] ∧ LadOk l BE BT ∧ LadOk k BE BT ∧ r = optD (unlike (tells l) (tells k) (max l.early.length k.early.length + l.turn.length + k.turn.length + 1))
def S_first_less : List D → D → Prop := fun ds r => ∃ l k : Lad, ds = [ladD l, ladD k] ∧ LadOk l BE BT ∧ LadOk k BE BT ∧ Nat.lcm l.turn.length k.turn.length ≤ BT ∧ (∀ n, tells k n ≤ tells l n) ∧ r = .none
def S_z_has : List D → D → Prop := fun ds r => ∃ (s : DSet) (n : Nat), ds = [setD s, .int (n : Int)] ∧ SetOk s ∧ r = .bool (decide (bit s n = 1))
abbrev sp_never_falls : Sp := spR S_never_falls
abbrev sp_always_rises : Sp := spR S_always_rises
abbrev sp_is_ladder : Sp := spR S_is_ladder
abbrev sp_is_set : Sp := spR S_is_set
abbrev sp_need_ladder : Sp := spR S_need_ladder
abbrev sp_need_set : Sp := spR S_need_set
abbrev sp_need_number : Sp := spR S_need_number
abbrev sp_common_divisor : Sp := spR S_common_divisor
abbrev sp_common_multiple : Sp := spR S_common_multiple
abbrev sp_prime_parts : Sp := spR S_prime_parts
abbrev sp_number_at : Sp := spR S_number_at
abbrev sp_first_numbers : Sp := spR S_first_numbers
abbrev sp_comes_again : Sp := spR S_comes_again
abbrev sp_least_length : Sp := spR S_least_length
abbrev sp_least_way : Sp := spR S_least_way
abbrev sp_least_row : Sp := spR S_least_row
abbrev sp_first_of_row : Sp := spR S_first_of_row
abbrev sp_set_row : Sp := spR S_set_row
abbrev sp_set_from : Sp := spR S_set_from
abbrev sp_set_of_days : Sp := spR S_set_of_days
abbrev sp_next_of : Sp := spR S_next_of
abbrev sp_counts_of : Sp := spR S_counts_of
abbrev sp_first_at_least : Sp := spR S_first_at_least
abbrev sp_joined_ladders : Sp := spR S_joined_ladders
abbrev sp_common_way : Sp := spR S_common_way
abbrev sp_risen : Sp := spR S_risen
abbrev sp_added_ladders : Sp := spR S_added_ladders
abbrev sp_unlike_day : Sp := spR S_unlike_day
abbrev sp_less_day : Sp := spR S_less_day
abbrev sp_least_set : Sp := spR S_least_set
abbrev sp_set_of : Sp := spR S_set_of
abbrev sp_common_rows : Sp := spR S_common_rows
abbrev sp_need_two_days : Sp := spR S_need_two_days
abbrev sp_both : Sp := spR S_both
abbrev sp_either : Sp := spR S_either
abbrev sp_but : Sp := spR S_but
abbrev sp_others : Sp := spR S_others
abbrev sp_moved : Sp := spR S_moved
abbrev sp_first_apart : Sp := spR S_first_apart
abbrev sp_meeting : Sp := spR S_meeting
abbrev sp_next_day : Sp := spR S_next_day
abbrev sp_counts : Sp := spR S_counts
abbrev sp_need_two_ladders : Sp := spR S_need_two_ladders
abbrev sp_value : Sp := spR S_value
abbrev sp_joined : Sp := spR S_joined
abbrev sp_plus : Sp := spR S_plus
abbrev sp_alike : Sp := spR S_alike
abbrev sp_first_unlike : Sp := spR S_first_unlike
abbrev sp_first_less : Sp := spR S_first_less
abbrev sp_z_has : Sp := spR S_z_has
end LD
/-! Rd: the readings of the program's defs (printed by gen.py). -/
namespace LD
open PySem PySem.Spec PyProof.Rows L2
/-- the reading of never_falls -/
def t_never_falls (K : PySem.W.Frag) : TS :=
  (tRet (tCB (rAll K) (tCons (tLc (iZip K (tCons (tVar 0) (tCons (tSl (rSlL K) (tVar 0) (tPart (tC (.int 1))) tNoPart) tNil))) (gTup K 2 (gCons (gName 1) (gCons (gName 2) gNil))) tYes (tOp rLe (tVar 1) (tVar 2)) [1, 2]) tNil)))
/-- the reading of always_rises -/
def t_always_rises (K : PySem.W.Frag) : TS :=
  (tRet (tCB (rAll K) (tCons (tLc (iZip K (tCons (tVar 0) (tCons (tSl (rSlL K) (tVar 0) (tPart (tC (.int 1))) tNoPart) tNil))) (gTup K 2 (gCons (gName 1) (gCons (gName 2) gNil))) tYes (tOp rLt (tVar 1) (tVar 2)) [1, 2]) tNil)))
/-- the reading of is_ladder -/
def t_is_ladder (K : PySem.W.Frag) : TS :=
  (tSeq (tAsg (tVar 0) (gTup K 3 (gCons (gName 1) (gCons (gName 2) (gCons (gName 3) gNil)))))
    (tSeq (tIfS (tOr (tTest (tOp (rEqD K) (tVar 2) (tLst tNil))) (tTest (tOp rLt (tVar 3) (tC (.int 0))))) (tRet (tC (.bl false))) tNext)
    (tRet (tCall sp_never_falls [] E0 (tCons (tOp rCat (tOp rCat (tOp rCat (tLst (tCons (tC (.int 0)) tNil)) (tVar 1)) (tVar 2)) (tLst (tCons (tOp rAdd (tOp (rIxL K) (tVar 2) (tC (.int 0))) (tVar 3)) tNil))) tNil)))))
/-- the reading of is_set -/
def t_is_set (K : PySem.W.Frag) : TS :=
  (tSeq (tAsg (tVar 0) (gTup K 4 (gCons (gName 1) (gCons (gName 2) (gCons (gName 3) (gCons (gName 4) gNil))))))
    (tSeq (tIfS (tOr (tTest (tOp rLt (tVar 2) (tC (.int 0)))) (tTest (tOp rLt (tVar 3) (tC (.int 1))))) (tRet (tC (.bl false))) tNext)
    (tRet (tAndV (tCall sp_always_rises [] E0 (tCons (tOp rCat (tOp rCat (tLst (tCons (tUn rNegU (tC (.int 1))) tNil)) (tVar 1)) (tLst (tCons (tVar 2) tNil))) tNil)) (tCall sp_always_rises [] E0 (tCons (tOp rCat (tOp rCat (tLst (tCons (tUn rNegU (tC (.int 1))) tNil)) (tVar 4)) (tLst (tCons (tVar 3) tNil))) tNil))))))
/-- the reading of need_ladder -/
def t_need_ladder (K : PySem.W.Frag) : TS :=
  (tIfS (tNot (tB (tCall sp_is_ladder [] E0 (tCons (tVar 0) tNil)))) tNever tNext)
/-- the reading of need_set -/
def t_need_set (K : PySem.W.Frag) : TS :=
  (tIfS (tNot (tB (tCall sp_is_set [] E0 (tCons (tVar 0) tNil)))) tNever tNext)
/-- the reading of need_number -/
def t_need_number (K : PySem.W.Frag) : TS :=
  (tIfS (tTest (tOp rLt (tVar 0) (tVar 1))) tNever tNext)
/-- the reading of common_divisor -/
def t_common_divisor (K : PySem.W.Frag) : TS :=
  (tSeq (tWhile (tTest (tOp rGt (tVar 1) (tC (.int 0)))) (tPar 0 1 (tCons (tVar 1) (tCons (tOp rMod (tVar 0) (tVar 1)) tNil))))
    (tRet (tVar 0)))
/-- the reading of common_multiple -/
def t_common_multiple (K : PySem.W.Frag) : TS :=
  (tRet (tOp rDiv (tOp rMul (tVar 0) (tVar 1)) (tCall sp_common_divisor [] E0 (tCons (tVar 0) (tCons (tVar 1) tNil)))))
/-- the reading of prime_parts -/
def t_prime_parts (K : PySem.W.Frag) : TS :=
  (tSeq (tAsg (tLst tNil) (gName 1))
    (tSeq (tPar 2 3 (tCons (tVar 0) (tCons (tC (.int 2)) tNil)))
    (tSeq (tWhile (tTest (tOp rGt (tVar 2) (tC (.int 1)))) (tSeq (tIfS (tTest (tOp rEq (tOp rMod (tVar 2) (tVar 3)) (tC (.int 0)))) (tSeq (tDrop (tBM K "list" rAppend (tVar 1) (tCons (tVar 3) tNil)))
    (tWhile (tTest (tOp rEq (tOp rMod (tVar 2) (tVar 3)) (tC (.int 0)))) (tAsg (tOp rDiv (tVar 2) (tVar 3)) (gName 2)))) tNext)
    (tAug 3 (tC (.int 1)) (ipI fun i j => i + j))))
    (tRet (tVar 1)))))
/-- the reading of number_at -/
def t_number_at (K : PySem.W.Frag) : TS :=
  (tSeq (tAsg (tVar 0) (gTup K 3 (gCons (gName 2) (gCons (gName 3) (gCons (gName 4) gNil)))))
    (tSeq (tIfS (tTest (tOp rLt (tVar 1) (tCB (rLenQ K) (tCons (tVar 2) tNil)))) (tRet (tOp (rIxL K) (tVar 2) (tVar 1))) tNext)
    (tSeq (tAsg (tCB rDivmod (tCons (tOp rSub (tVar 1) (tCB (rLenQ K) (tCons (tVar 2) tNil))) (tCons (tCB (rLenQ K) (tCons (tVar 3) tNil)) tNil))) (gTup K 2 (gCons (gName 5) (gCons (gName 6) gNil))))
    (tRet (tOp rAdd (tOp (rIxL K) (tVar 3) (tVar 6)) (tOp rMul (tVar 4) (tVar 5)))))))
/-- the reading of first_numbers -/
def t_first_numbers (K : PySem.W.Frag) : TS :=
  (tSeq (tAsg (tVar 0) (gTup K 3 (gCons (gName 2) (gCons (gName 3) (gCons (gName 4) gNil)))))
    (tSeq (tAsg (tOp rAdd (tOp rDiv (tCB rMax2 (tCons (tC (.int 0)) (tCons (tOp rSub (tVar 1) (tCB (rLenQ K) (tCons (tVar 2) tNil))) tNil))) (tCB (rLenQ K) (tCons (tVar 3) tNil))) (tC (.int 1))) (gName 5))
    (tSeq (tAsg (tOp rCat (tVar 2) (tLc2 (iRng1 (tCons (tVar 5) tNil)) (gName 7) tYes (iList K (tVar 3)) (gName 8) tYes (tOp rAdd (tVar 8) (tOp rMul (tVar 4) (tVar 7))) [7, 8] [8])) (gName 6))
    (tRet (tSl (rSlL K) (tVar 6) tNoPart (tPart (tVar 1)))))))
/-- the reading of comes_again -/
def t_comes_again (K : PySem.W.Frag) : TS :=
  (tSeq (tAsg (tOp rDiv (tCB (rLenQ K) (tCons (tVar 0) tNil)) (tVar 2)) (gName 3))
    (tSeq (tIfS (tTest (tOp rNe (tOp rMod (tVar 1) (tVar 3)) (tC (.int 0)))) (tRet (tC (.bl false))) tNext)
    (tSeq (tAsg (tOp rCat (tSl (rSlL K) (tVar 0) (tPart (tVar 2)) tNoPart) (tLc (iList K (tSl (rSlL K) (tVar 0) tNoPart (tPart (tVar 2)))) (gName 5) tYes (tOp rAdd (tVar 5) (tVar 1)) [5])) (gName 4))
    (tRet (tCB (rAll K) (tCons (tLc (iZip K (tCons (tVar 0) (tCons (tVar 4) tNil))) (gTup K 2 (gCons (gName 5) (gCons (gName 6) gNil))) tYes (tOp rEq (tOp rAdd (tVar 5) (tOp rDiv (tVar 1) (tVar 3))) (tVar 6)) [5, 6]) tNil))))))
/-- the reading of least_length -/
def t_least_length (K : PySem.W.Frag) : TS :=
  (tSeq (tAsg (tCB (rLenQ K) (tCons (tVar 0) tNil)) (gName 2))
    (tSeq (tFor (iList K (tCall sp_prime_parts [] E0 (tCons (tVar 2) tNil))) (gName 3)
    (tWhile (tAnd (tTest (tOp rEq (tOp rMod (tVar 2) (tVar 3)) (tC (.int 0)))) (tB (tCall sp_comes_again [] E0 (tCons (tVar 0) (tCons (tVar 1) (tCons (tOp rDiv (tVar 2) (tVar 3)) tNil)))))) (tAsg (tOp rDiv (tVar 2) (tVar 3)) (gName 2))))
    (tRet (tVar 2))))
/-- the reading of least_way -/
def t_least_way (K : PySem.W.Frag) : TS :=
  (tSeq (tAsg (tVar 0) (gTup K 3 (gCons (gName 1) (gCons (gName 2) (gCons (gName 3) gNil)))))
    (tSeq (tAsg (tCall sp_least_length [] E0 (tCons (tVar 2) (tCons (tVar 3) tNil))) (gName 4))
    (tSeq (tAsg (tOp rDiv (tOp rMul (tVar 3) (tVar 4)) (tCB (rLenQ K) (tCons (tVar 2) tNil))) (gName 5))
    (tSeq (tPar 6 7 (tCons (tOp rCat (tVar 1) (tSl (rSlL K) (tVar 2) tNoPart (tPart (tVar 4)))) (tCons (tCB (rLenQ K) (tCons (tVar 1) tNil)) tNil)))
    (tSeq (tWhile (tAnd (tTest (tOp rGt (tVar 7) (tC (.int 0)))) (tTest (tOp rEq (tOp rAdd (tOp (rIxL K) (tVar 6) (tOp rSub (tVar 7) (tC (.int 1)))) (tVar 5)) (tOp (rIxL K) (tVar 6) (tOp rAdd (tOp rSub (tVar 7) (tC (.int 1))) (tVar 4)))))) (tAug 7 (tC (.int 1)) (ipI fun i j => i - j)))
    (tRet (tTup (tCons (tSl (rSlL K) (tVar 6) tNoPart (tPart (tVar 7))) (tCons (tSl (rSlL K) (tVar 6) (tPart (tVar 7)) (tPart (tOp rAdd (tVar 7) (tVar 4)))) (tCons (tVar 5) tNil))))))))))
/-- the reading of least_row -/
def t_least_row (K : PySem.W.Frag) : TS :=
  (tSeq (tAsg (tVar 0) (gTup K 2 (gCons (gName 1) (gCons (gName 2) gNil))))
    (tRet (tSl (rSlT K) (tCall sp_least_way [] E0 (tCons (tTup (tCons (tVar 1) (tCons (tVar 2) (tCons (tC (.int 0)) tNil)))) tNil)) tNoPart (tPart (tC (.int 2))))))
/-- the reading of first_of_row -/
def t_first_of_row (K : PySem.W.Frag) : TS :=
  (tRet (tCall sp_first_numbers [] E0 (tCons (tTup (tCons (tOp (rIxT K) (tVar 0) (tC (.int 0))) (tCons (tOp (rIxT K) (tVar 0) (tC (.int 1))) (tCons (tC (.int 0)) tNil)))) (tCons (tVar 1) tNil))))
/-- the reading of set_row -/
def t_set_row (K : PySem.W.Frag) : TS :=
  (tSeq (tAsg (tVar 0) (gTup K 4 (gCons (gName 1) (gCons (gName 2) (gCons (gName 3) (gCons (gName 4) gNil))))))
    (tSeq (tAsg (tTup (tCons (tDc (iList K (tVar 1)) (gName 7) tYes (tVar 7) (tC (.bl true)) [7]) (tCons (tDc (iList K (tVar 4)) (gName 8) tYes (tVar 8) (tC (.bl true)) [8]) tNil))) (gTup K 2 (gCons (gName 5) (gCons (gName 6) gNil))))
    (tRet (tTup (tCons (tLc (iRng1 (tCons (tVar 2) tNil)) (gName 7) tYes (tCB rInt1 (tCons (tDIn (tVar 7) (tVar 5)) tNil)) [7]) (tCons (tLc (iRng1 (tCons (tVar 3) tNil)) (gName 8) tYes (tCB rInt1 (tCons (tDIn (tVar 8) (tVar 6)) tNil)) [8]) tNil))))))
/-- the reading of set_from -/
def t_set_from (K : PySem.W.Frag) : TS :=
  (tSeq (tAsg (tCall sp_least_row [] E0 (tCons (tVar 0) tNil)) (gTup K 2 (gCons (gName 1) (gCons (gName 2) gNil))))
    (tSeq (tAsg (tLc (iEnum K (tCons (tVar 1) tNil)) (gTup K 2 (gCons (gName 4) (gCons (gName 5) gNil))) (tTest (tOp rEq (tVar 5) (tC (.int 1)))) (tVar 4) [4, 5]) (gName 3))
    (tRet (tTup (tCons (tVar 3) (tCons (tCB (rLenQ K) (tCons (tVar 1) tNil)) (tCons (tCB (rLenQ K) (tCons (tVar 2) tNil)) (tCons (tLc (iEnum K (tCons (tVar 2) tNil)) (gTup K 2 (gCons (gName 6) (gCons (gName 5) gNil))) (tTest (tOp rEq (tVar 5) (tC (.int 1)))) (tVar 6) [6, 5]) tNil))))))))
/-- the reading of set_of_days -/
def t_set_of_days (K : PySem.W.Frag) (w : World) : TS :=
  (tSeq (tAsg (tCB (rSortedSet w) (tCons (tCB (rSetI K w) (tCons (tVar 0) tNil)) tNil)) (gName 1))
    (tRet (tTup (tCons (tVar 1) (tCons (tIf (tTest (tOp (rNeD K) (tVar 1) (tLst tNil))) (tOp rAdd (tOp (rIxL K) (tVar 1) (tUn rNegU (tC (.int 1)))) (tC (.int 1))) (tC (.int 0))) (tCons (tC (.int 1)) (tCons (tLst tNil) tNil)))))))
/-- the reading of next_of -/
def t_next_of (K : PySem.W.Frag) : TS :=
  (tSeq (tAsg (tVar 0) (gTup K 4 (gCons (gName 2) (gCons (gName 3) (gCons (gName 4) (gCons (gName 5) gNil))))))
    (tSeq (tAsg (tLc (iList K (tVar 2)) (gName 7) (tTest (tOp rGe (tVar 7) (tVar 1))) (tVar 7) [7]) (gName 6))
    (tSeq (tIfS (tOr (tTest (tOp (rNeD K) (tVar 6) (tLst tNil))) (tTest (tOp (rEqD K) (tVar 5) (tLst tNil)))) (tRet (tIf (tTest (tOp (rNeD K) (tVar 6) (tLst tNil))) (tOp (rIxL K) (tVar 6) (tC (.int 0))) (tC .non))) tNext)
    (tSeq (tAsg (tCB rDivmod (tCons (tOp rSub (tCB rMax2 (tCons (tVar 1) (tCons (tVar 3) tNil))) (tVar 3)) (tCons (tVar 4) tNil))) (gTup K 2 (gCons (gName 8) (gCons (gName 9) gNil))))
    (tSeq (tAsg (tLc (iList K (tVar 5)) (gName 7) (tTest (tOp rGe (tVar 7) (tVar 9))) (tVar 7) [7]) (gName 10))
    (tSeq (tIfS (tTest (tOp (rNeD K) (tVar 10) (tLst tNil))) (tRet (tOp rAdd (tOp rAdd (tVar 3) (tOp rMul (tVar 4) (tVar 8))) (tOp (rIxL K) (tVar 10) (tC (.int 0))))) tNext)
    (tRet (tOp rAdd (tOp rAdd (tVar 3) (tOp rMul (tVar 4) (tOp rAdd (tVar 8) (tC (.int 1))))) (tOp (rIxL K) (tVar 5) (tC (.int 0)))))))))))
/-- the reading of counts_of -/
def t_counts_of (K : PySem.W.Frag) : TS :=
  (tSeq (tAsg (tCall sp_set_row [] E0 (tCons (tVar 0) tNil)) (gTup K 2 (gCons (gName 1) (gCons (gName 2) gNil))))
    (tSeq (tAsg (tLst tNil) (gName 3))
    (tSeq (tAsg (tC (.int 0)) (gName 4))
    (tSeq (tFor (iList K (tOp rCat (tVar 1) (tVar 2))) (gName 5)
    (tSeq (tDrop (tBM K "list" rAppend (tVar 3) (tCons (tVar 4) tNil)))
    (tAsg (tOp rAdd (tVar 4) (tVar 5)) (gName 4))))
    (tRet (tCall sp_least_way [] E0 (tCons (tTup (tCons (tSl (rSlL K) (tVar 3) tNoPart (tPart (tCB (rLenQ K) (tCons (tVar 1) tNil)))) (tCons (tSl (rSlL K) (tVar 3) (tPart (tCB (rLenQ K) (tCons (tVar 1) tNil))) tNoPart) (tCons (tCB (rSum K) (tCons (tVar 2) tNil)) tNil)))) tNil)))))))
/-- the reading of first_at_least -/
def t_first_at_least (K : PySem.W.Frag) : TS :=
  (tSeq (tAsg (tVar 0) (gTup K 3 (gCons (gName 2) (gCons (gName 3) (gCons (gName 4) gNil)))))
    (tSeq (tFor (iEnum K (tCons (tVar 2) tNil)) (gTup K 2 (gCons (gName 5) (gCons (gName 6) gNil)))
    (tIfS (tTest (tOp rGe (tVar 6) (tVar 1))) (tRet (tVar 5)) tNext))
    (tSeq (tAsg (tCB rMax2 (tCons (tC (.int 0)) (tCons (tOp rDiv (tOp rSub (tOp rAdd (tOp rSub (tVar 1) (tOp (rIxL K) (tVar 3) (tUn rNegU (tC (.int 1))))) (tVar 4)) (tC (.int 1))) (tVar 4)) tNil))) (gName 7))
    (tSeq (tAsg (tOp (rIxL K) (tLc (iEnum K (tCons (tVar 3) tNil)) (gTup K 2 (gCons (gName 8) (gCons (gName 6) gNil))) (tTest (tOp rGe (tOp rAdd (tVar 6) (tOp rMul (tVar 4) (tVar 7))) (tVar 1))) (tVar 8) [8, 6]) (tC (.int 0))) (gName 8))
    (tRet (tOp rAdd (tOp rAdd (tCB (rLenQ K) (tCons (tVar 2) tNil)) (tOp rMul (tCB (rLenQ K) (tCons (tVar 3) tNil)) (tVar 7))) (tVar 8)))))))
/-- the reading of joined_ladders -/
def t_joined_ladders (K : PySem.W.Frag) : TS :=
  (tSeq (tAsg (tVar 0) (gTup K 3 (gCons (gName 2) (gCons (gName 3) (gCons (gName 4) gNil)))))
    (tSeq (tAsg (tVar 1) (gTup K 3 (gCons (gName 5) (gCons (gName 6) (gCons (gName 7) gNil)))))
    (tSeq (tPar3 8 9 10 (tCons (tCB (rLenQ K) (tCons (tVar 2) tNil)) (tCons (tCB (rLenQ K) (tCons (tVar 3) tNil)) (tCons (tC (.int 0)) tNil))))
    (tSeq (tIfS (tTest (tOp rGt (tVar 4) (tC (.int 0)))) (tSeq (tAsg (tCB rMax2 (tCons (tVar 8) (tCons (tCall sp_first_at_least [] E0 (tCons (tVar 0) (tCons (tCB (rLenQ K) (tCons (tVar 5) tNil)) tNil))) tNil))) (gName 8))
    (tSeq (tAsg (tOp rDiv (tCB (rLenQ K) (tCons (tVar 6) tNil)) (tCall sp_common_divisor [] E0 (tCons (tVar 4) (tCons (tCB (rLenQ K) (tCons (tVar 6) tNil)) tNil)))) (gName 11))
    (tPar 9 10 (tCons (tOp rMul (tVar 9) (tVar 11)) (tCons (tOp rMul (tOp rDiv (tOp rMul (tVar 4) (tVar 11)) (tCB (rLenQ K) (tCons (tVar 6) tNil))) (tVar 7)) tNil))))) tNext)
    (tSeq (tAsg (tLc (iList K (tCall sp_first_numbers [] E0 (tCons (tVar 0) (tCons (tOp rAdd (tVar 8) (tVar 9)) tNil)))) (gName 13) tYes (tCall sp_number_at [] E0 (tCons (tVar 1) (tCons (tVar 13) tNil))) [13]) (gName 12))
    (tRet (tCall sp_least_way [] E0 (tCons (tTup (tCons (tSl (rSlL K) (tVar 12) tNoPart (tPart (tVar 8))) (tCons (tSl (rSlL K) (tVar 12) (tPart (tVar 8)) tNoPart) (tCons (tVar 10) tNil)))) tNil))))))))
/-- the reading of common_way -/
def t_common_way (K : PySem.W.Frag) : TS :=
  (tRet (tTup (tCons (tCB rMax2 (tCons (tCB (rLenQ K) (tCons (tOp (rIxT K) (tVar 0) (tC (.int 0))) tNil)) (tCons (tCB (rLenQ K) (tCons (tOp (rIxT K) (tVar 1) (tC (.int 0))) tNil)) tNil))) (tCons (tCall sp_common_multiple [] E0 (tCons (tCB (rLenQ K) (tCons (tOp (rIxT K) (tVar 0) (tC (.int 1))) tNil)) (tCons (tCB (rLenQ K) (tCons (tOp (rIxT K) (tVar 1) (tC (.int 1))) tNil)) tNil))) tNil))))
/-- the reading of risen -/
def t_risen (K : PySem.W.Frag) : TS :=
  (tRet (tOp rMul (tOp (rIxT K) (tVar 0) (tC (.int 2))) (tOp rDiv (tVar 1) (tCB (rLenQ K) (tCons (tOp (rIxT K) (tVar 0) (tC (.int 1))) tNil)))))
/-- the reading of added_ladders -/
def t_added_ladders (K : PySem.W.Frag) : TS :=
  (tSeq (tAsg (tCall sp_common_way [] E0 (tCons (tVar 0) (tCons (tVar 1) tNil))) (gTup K 2 (gCons (gName 2) (gCons (gName 3) gNil))))
    (tSeq (tAsg (tOp rAdd (tVar 2) (tVar 3)) (gName 4))
    (tSeq (tAsg (tLc (iZip K (tCons (tCall sp_first_numbers [] E0 (tCons (tVar 0) (tCons (tVar 4) tNil))) (tCons (tCall sp_first_numbers [] E0 (tCons (tVar 1) (tCons (tVar 4) tNil))) tNil))) (gTup K 2 (gCons (gName 6) (gCons (gName 7) gNil))) tYes (tOp rAdd (tVar 6) (tVar 7)) [6, 7]) (gName 5))
    (tRet (tCall sp_least_way [] E0 (tCons (tTup (tCons (tSl (rSlL K) (tVar 5) tNoPart (tPart (tVar 2))) (tCons (tSl (rSlL K) (tVar 5) (tPart (tVar 2)) tNoPart) (tCons (tOp rAdd (tCall sp_risen [] E0 (tCons (tVar 0) (tCons (tVar 3) tNil))) (tCall sp_risen [] E0 (tCons (tVar 1) (tCons (tVar 3) tNil)))) tNil)))) tNil))))))
/-- the reading of unlike_day -/
def t_unlike_day (K : PySem.W.Frag) : TS :=
  (tSeq (tAsg (tOp rAdd (tOp rAdd (tOp rAdd (tCB rMax2 (tCons (tCB (rLenQ K) (tCons (tOp (rIxT K) (tVar 0) (tC (.int 0))) tNil)) (tCons (tCB (rLenQ K) (tCons (tOp (rIxT K) (tVar 1) (tC (.int 0))) tNil)) tNil))) (tCB (rLenQ K) (tCons (tOp (rIxT K) (tVar 0) (tC (.int 1))) tNil))) (tCB (rLenQ K) (tCons (tOp (rIxT K) (tVar 1) (tC (.int 1))) tNil))) (tC (.int 1))) (gName 2))
    (tSeq (tFor (iEnZ K (tCons (tCall sp_first_numbers [] E0 (tCons (tVar 0) (tCons (tVar 2) tNil))) (tCons (tCall sp_first_numbers [] E0 (tCons (tVar 1) (tCons (tVar 2) tNil))) tNil))) (gTup K 2 (gCons (gName 3) (gCons (gTup K 2 (gCons (gName 4) (gCons (gName 5) gNil))) gNil)))
    (tIfS (tTest (tOp rNe (tVar 4) (tVar 5))) (tRet (tVar 3)) tNext))
    (tRet (tC .non))))
/-- the reading of less_day -/
def t_less_day (K : PySem.W.Frag) : TS :=
  (tSeq (tAsg (tCall sp_common_way [] E0 (tCons (tVar 0) (tCons (tVar 1) tNil))) (gTup K 2 (gCons (gName 2) (gCons (gName 3) gNil))))
    (tSeq (tPar 4 5 (tCons (tOp rAdd (tVar 2) (tVar 3)) (tCons (tOp rSub (tCall sp_risen [] E0 (tCons (tVar 1) (tCons (tVar 3) tNil))) (tCall sp_risen [] E0 (tCons (tVar 0) (tCons (tVar 3) tNil)))) tNil)))
    (tSeq (tAsg (tC .non) (gName 6))
    (tSeq (tFor (iEnZ K (tCons (tCall sp_first_numbers [] E0 (tCons (tVar 0) (tCons (tVar 4) tNil))) (tCons (tCall sp_first_numbers [] E0 (tCons (tVar 1) (tCons (tVar 4) tNil))) tNil))) (gTup K 2 (gCons (gName 7) (gCons (gTup K 2 (gCons (gName 8) (gCons (gName 9) gNil))) gNil)))
    (tSeq (tIfS (tTest (tOp rLt (tVar 8) (tVar 9))) (tRet (tVar 7)) tNext)
    (tIfS (tAnd (tTest (tOp rGe (tVar 7) (tVar 2))) (tTest (tOp rGt (tVar 5) (tC (.int 0))))) (tSeq (tAsg (tOp rAdd (tVar 7) (tOp rMul (tVar 3) (tOp rAdd (tOp rDiv (tOp rSub (tVar 8) (tVar 9)) (tVar 5)) (tC (.int 1))))) (gName 10))
    (tAsg (tIf (tB (tIsN (tVar 6))) (tVar 10) (tCB rMin2 (tCons (tVar 6) (tCons (tVar 10) tNil)))) (gName 6))) tNext)))
    (tRet (tVar 6))))))
/-- the reading of least_set -/
def t_least_set (K : PySem.W.Frag) : TS :=
  (tSeq (tDrop (tCall sp_need_set [] E0 (tCons (tVar 0) tNil)))
    (tRet (tCall sp_set_from [] E0 (tCons (tCall sp_set_row [] E0 (tCons (tVar 0) tNil)) tNil))))
/-- the reading of set_of -/
def t_set_of (K : PySem.W.Frag) : TS :=
  (tSeq (tFor (iList K (tVar 0)) (gName 1)
    (tDrop (tCall sp_need_number [] E0 (tCons (tVar 1) (tCons (tC (.int 0)) tNil)))))
    (tRet (tCall sp_set_of_days [] E0 (tCons (tVar 0) tNil))))
/-- the reading of common_rows -/
def t_common_rows (K : PySem.W.Frag) : TS :=
  (tSeq (tPar 2 3 (tCons (tCB rMax2 (tCons (tOp (rIxT K) (tVar 0) (tC (.int 1))) (tCons (tOp (rIxT K) (tVar 1) (tC (.int 1))) tNil))) (tCons (tOp rAdd (tCB rMax2 (tCons (tOp (rIxT K) (tVar 0) (tC (.int 1))) (tCons (tOp (rIxT K) (tVar 1) (tC (.int 1))) tNil))) (tCall sp_common_multiple [] E0 (tCons (tOp (rIxT K) (tVar 0) (tC (.int 2))) (tCons (tOp (rIxT K) (tVar 1) (tC (.int 2))) tNil)))) tNil)))
    (tRet (tTup (tCons (tVar 2) (tCons (tCall sp_first_of_row [] E0 (tCons (tCall sp_set_row [] E0 (tCons (tVar 0) tNil)) (tCons (tVar 3) tNil))) (tCons (tCall sp_first_of_row [] E0 (tCons (tCall sp_set_row [] E0 (tCons (tVar 1) tNil)) (tCons (tVar 3) tNil))) tNil))))))
/-- the reading of need_two_days -/
def t_need_two_days (K : PySem.W.Frag) : TS :=
  (tSeq (tDrop (tCall sp_need_set [] E0 (tCons (tVar 0) tNil)))
    (tDrop (tCall sp_need_set [] E0 (tCons (tVar 1) tNil))))
/-- the reading of both -/
def t_both (K : PySem.W.Frag) : TS :=
  (tSeq (tDrop (tCall sp_need_two_days [] E0 (tCons (tVar 0) (tCons (tVar 1) tNil))))
    (tSeq (tAsg (tCall sp_common_rows [] E0 (tCons (tVar 0) (tCons (tVar 1) tNil))) (gTup K 3 (gCons (gName 2) (gCons (gName 3) (gCons (gName 4) gNil)))))
    (tSeq (tAsg (tLc (iZip K (tCons (tVar 3) (tCons (tVar 4) tNil))) (gTup K 2 (gCons (gName 6) (gCons (gName 7) gNil))) tYes (tOp rMul (tVar 6) (tVar 7)) [6, 7]) (gName 5))
    (tRet (tCall sp_set_from [] E0 (tCons (tTup (tCons (tSl (rSlL K) (tVar 5) tNoPart (tPart (tVar 2))) (tCons (tSl (rSlL K) (tVar 5) (tPart (tVar 2)) tNoPart) tNil))) tNil))))))
/-- the reading of either -/
def t_either (K : PySem.W.Frag) : TS :=
  (tSeq (tDrop (tCall sp_need_two_days [] E0 (tCons (tVar 0) (tCons (tVar 1) tNil))))
    (tSeq (tAsg (tCall sp_common_rows [] E0 (tCons (tVar 0) (tCons (tVar 1) tNil))) (gTup K 3 (gCons (gName 2) (gCons (gName 3) (gCons (gName 4) gNil)))))
    (tSeq (tAsg (tLc (iZip K (tCons (tVar 3) (tCons (tVar 4) tNil))) (gTup K 2 (gCons (gName 6) (gCons (gName 7) gNil))) tYes (tCB rMax2 (tCons (tVar 6) (tCons (tVar 7) tNil))) [6, 7]) (gName 5))
    (tRet (tCall sp_set_from [] E0 (tCons (tTup (tCons (tSl (rSlL K) (tVar 5) tNoPart (tPart (tVar 2))) (tCons (tSl (rSlL K) (tVar 5) (tPart (tVar 2)) tNoPart) tNil))) tNil))))))
/-- the reading of but -/
def t_but (K : PySem.W.Frag) : TS :=
  (tSeq (tDrop (tCall sp_need_two_days [] E0 (tCons (tVar 0) (tCons (tVar 1) tNil))))
    (tSeq (tAsg (tCall sp_common_rows [] E0 (tCons (tVar 0) (tCons (tVar 1) tNil))) (gTup K 3 (gCons (gName 2) (gCons (gName 3) (gCons (gName 4) gNil)))))
    (tSeq (tAsg (tLc (iZip K (tCons (tVar 3) (tCons (tVar 4) tNil))) (gTup K 2 (gCons (gName 6) (gCons (gName 7) gNil))) tYes (tOp rMul (tVar 6) (tOp rSub (tC (.int 1)) (tVar 7))) [6, 7]) (gName 5))
    (tRet (tCall sp_set_from [] E0 (tCons (tTup (tCons (tSl (rSlL K) (tVar 5) tNoPart (tPart (tVar 2))) (tCons (tSl (rSlL K) (tVar 5) (tPart (tVar 2)) tNoPart) tNil))) tNil))))))
/-- the reading of others -/
def t_others (K : PySem.W.Frag) : TS :=
  (tSeq (tDrop (tCall sp_need_set [] E0 (tCons (tVar 0) tNil)))
    (tSeq (tAsg (tCall sp_set_row [] E0 (tCons (tVar 0) tNil)) (gTup K 2 (gCons (gName 1) (gCons (gName 2) gNil))))
    (tRet (tCall sp_set_from [] E0 (tCons (tTup (tCons (tLc (iList K (tVar 1)) (gName 3) tYes (tOp rSub (tC (.int 1)) (tVar 3)) [3]) (tCons (tLc (iList K (tVar 2)) (gName 3) tYes (tOp rSub (tC (.int 1)) (tVar 3)) [3]) tNil))) tNil)))))
/-- the reading of moved -/
def t_moved (K : PySem.W.Frag) : TS :=
  (tSeq (tDrop (tCall sp_need_set [] E0 (tCons (tVar 0) tNil)))
    (tSeq (tAsg (tCall sp_set_row [] E0 (tCons (tVar 0) tNil)) (gTup K 2 (gCons (gName 2) (gCons (gName 3) gNil))))
    (tSeq (tIfS (tTest (tOp rGe (tVar 1) (tC (.int 0)))) (tRet (tCall sp_set_from [] E0 (tCons (tTup (tCons (tOp rCat (tOp rRep (tLst (tCons (tC (.int 0)) tNil)) (tVar 1)) (tVar 2)) (tCons (tVar 3) tNil))) tNil))) tNext)
    (tSeq (tAsg (tOp rMod (tCB rMax2 (tCons (tC (.int 0)) (tCons (tOp rSub (tUn rNegU (tVar 1)) (tCB (rLenQ K) (tCons (tVar 2) tNil))) tNil))) (tCB (rLenQ K) (tCons (tVar 3) tNil))) (gName 4))
    (tRet (tCall sp_set_from [] E0 (tCons (tTup (tCons (tSl (rSlL K) (tVar 2) (tPart (tUn rNegU (tVar 1))) tNoPart) (tCons (tOp rCat (tSl (rSlL K) (tVar 3) (tPart (tVar 4)) tNoPart) (tSl (rSlL K) (tVar 3) tNoPart (tPart (tVar 4)))) tNil))) tNil)))))))
/-- the reading of first_apart -/
def t_first_apart (K : PySem.W.Frag) : TS :=
  (tSeq (tDrop (tCall sp_need_two_days [] E0 (tCons (tVar 0) (tCons (tVar 1) tNil))))
    (tSeq (tAsg (tOp rAdd (tOp rAdd (tCB rMax2 (tCons (tOp (rIxT K) (tVar 0) (tC (.int 1))) (tCons (tOp (rIxT K) (tVar 1) (tC (.int 1))) tNil))) (tOp (rIxT K) (tVar 0) (tC (.int 2)))) (tOp (rIxT K) (tVar 1) (tC (.int 2)))) (gName 2))
    (tSeq (tFor (iEnZ K (tCons (tCall sp_first_of_row [] E0 (tCons (tCall sp_set_row [] E0 (tCons (tVar 0) tNil)) (tCons (tVar 2) tNil))) (tCons (tCall sp_first_of_row [] E0 (tCons (tCall sp_set_row [] E0 (tCons (tVar 1) tNil)) (tCons (tVar 2) tNil))) tNil))) (gTup K 2 (gCons (gName 3) (gCons (gName 4) gNil)))
    (tIfS (tTest (tOp rNe (tOp (rIxT K) (tVar 4) (tC (.int 0))) (tOp (rIxT K) (tVar 4) (tC (.int 1))))) (tRet (tVar 3)) tNext))
    (tRet (tC .non)))))
/-- the reading of meeting -/
def t_meeting (K : PySem.W.Frag) : TS :=
  (tSeq (tDrop (tCall sp_need_two_days [] E0 (tCons (tVar 0) (tCons (tVar 1) tNil))))
    (tSeq (tAsg (tCall sp_common_rows [] E0 (tCons (tVar 0) (tCons (tVar 1) tNil))) (gTup K 3 (gCons (gName 2) (gCons (gName 3) (gCons (gName 4) gNil)))))
    (tSeq (tFor (iEnZ K (tCons (tVar 3) (tCons (tVar 4) tNil))) (gTup K 2 (gCons (gName 5) (gCons (gName 6) gNil)))
    (tIfS (tTest (tOp (rEqD K) (tVar 6) (tTup (tCons (tC (.int 1)) (tCons (tC (.int 1)) tNil))))) (tRet (tVar 5)) tNext))
    (tRet (tC .non)))))
/-- the reading of next_day -/
def t_next_day (K : PySem.W.Frag) : TS :=
  (tSeq (tDrop (tCall sp_need_set [] E0 (tCons (tVar 0) tNil)))
    (tSeq (tDrop (tCall sp_need_number [] E0 (tCons (tVar 1) (tCons (tC (.int 0)) tNil))))
    (tRet (tCall sp_next_of [] E0 (tCons (tVar 0) (tCons (tVar 1) tNil))))))
/-- the reading of counts -/
def t_counts (K : PySem.W.Frag) : TS :=
  (tSeq (tDrop (tCall sp_need_set [] E0 (tCons (tVar 0) tNil)))
    (tRet (tCall sp_counts_of [] E0 (tCons (tVar 0) tNil))))
/-- the reading of need_two_ladders -/
def t_need_two_ladders (K : PySem.W.Frag) : TS :=
  (tSeq (tDrop (tCall sp_need_ladder [] E0 (tCons (tVar 0) tNil)))
    (tDrop (tCall sp_need_ladder [] E0 (tCons (tVar 1) tNil))))
/-- the reading of value -/
def t_value (K : PySem.W.Frag) : TS :=
  (tSeq (tDrop (tCall sp_need_ladder [] E0 (tCons (tVar 0) tNil)))
    (tSeq (tDrop (tCall sp_need_number [] E0 (tCons (tVar 1) (tCons (tC (.int 0)) tNil))))
    (tRet (tCall sp_number_at [] E0 (tCons (tVar 0) (tCons (tVar 1) tNil))))))
/-- the reading of joined -/
def t_joined (K : PySem.W.Frag) : TS :=
  (tSeq (tDrop (tCall sp_need_two_ladders [] E0 (tCons (tVar 0) (tCons (tVar 1) tNil))))
    (tRet (tCall sp_joined_ladders [] E0 (tCons (tVar 0) (tCons (tVar 1) tNil)))))
/-- the reading of plus -/
def t_plus (K : PySem.W.Frag) : TS :=
  (tSeq (tDrop (tCall sp_need_two_ladders [] E0 (tCons (tVar 0) (tCons (tVar 1) tNil))))
    (tRet (tCall sp_added_ladders [] E0 (tCons (tVar 0) (tCons (tVar 1) tNil)))))
/-- the reading of alike -/
def t_alike (K : PySem.W.Frag) : TS :=
  (tSeq (tDrop (tCall sp_need_two_ladders [] E0 (tCons (tVar 0) (tCons (tVar 1) tNil))))
    (tRet (tIsN (tCall sp_unlike_day [] E0 (tCons (tVar 0) (tCons (tVar 1) tNil))))))
/-- the reading of first_unlike -/
def t_first_unlike (K : PySem.W.Frag) : TS :=
  (tSeq (tDrop (tCall sp_need_two_ladders [] E0 (tCons (tVar 0) (tCons (tVar 1) tNil))))
    (tRet (tCall sp_unlike_day [] E0 (tCons (tVar 0) (tCons (tVar 1) tNil)))))
/-- the reading of first_less -/
def t_first_less (K : PySem.W.Frag) : TS :=
  (tSeq (tDrop (tCall sp_need_two_ladders [] E0 (tCons (tVar 0) (tCons (tVar 1) tNil))))
    (tRet (tCall sp_less_day [] E0 (tCons (tVar 0) (tCons (tVar 1) tNil)))))
/-- the reading of _law_dl_has -/
def t_z_has (K : PySem.W.Frag) : TS :=
  (tSeq (tAsg (tVar 0) (gTup K 4 (gCons (gName 2) (gCons (gName 3) (gCons (gName 4) (gCons (gName 5) gNil))))))
    (tRet (tIf (tTest (tOp rLt (tVar 1) (tVar 3))) (tOp (rIn K false) (tVar 1) (tVar 2)) (tOp (rIn K false) (tOp rMod (tCB rInt1 (tCons (tOp rSub (tVar 1) (tVar 3)) tNil)) (tVar 4)) (tVar 5)))))
end LD
/-! Dat5: the same for lists of ints. -/
namespace LD
open PySem PySem.Spec PyProof.Rows L2 LM
theorem sizeLine_is : sizeLine = 16777216 := by decide
theorem pairs_ints : ∀ ns ms : List Int, pairsD (ns.map .int) (ms.map .int) = (ns.zip ms).map fun p => .tuple [.int p.1, .int p.2]
  | [], _ => rfl
  | _ :: _, [] => rfl
  | n :: ns, m :: ms => by
    have ih := pairs_ints ns ms
    unfold pairsD at ih ⊢
    rw [List.map_cons, List.map_cons, List.zipWith_cons_cons, ih]
    rfl
theorem getD_of {ns : List Int} {i : Nat} (h : i < ns.length) : ns[i]? = some (ns.getD i 0) := by
  rw [List.getD_eq_getElem?_getD, List.getElem?_eq_getElem h]
  rfl
theorem pairs_count (ns : List Int) : pairsD (countD (ns.map (PyData.int : Int → D)).length) (ns.map .int) = (List.range ns.length).map fun i => .tuple [.int (i : Nat), .int (ns.getD i 0)] := by
  refine List.ext_getElem? fun i => ?_
  by_cases h : i < ns.length
  · rw [pairsD_get (countD_get (by rw [List.length_map]; exact h)) (by rw [List.getElem?_map, getD_of h]; rfl), List.getElem?_map, List.getElem?_range h]
    rfl
  · rw [List.getElem?_eq_none (by rw [pairsD_length, countD_length, List.length_map]; omega), List.getElem?_eq_none (by rw [List.length_map, List.length_range]; omega)]
theorem pairs_two (ns ms : List Int) : pairsD (countD (pairsD (ns.map (PyData.int : Int → D)) (ms.map .int)).length) (pairsD (ns.map .int) (ms.map .int)) =
    (List.range (min ns.length ms.length)).map fun i => .tuple [.int (i : Nat), .tuple [.int (ns.getD i 0), .int (ms.getD i 0)]] := by
  have hl : (pairsD (ns.map (PyData.int : Int → D)) (ms.map .int)).length = min ns.length ms.length := by rw [pairsD_length, List.length_map, List.length_map]
  refine List.ext_getElem? fun i => ?_
  by_cases h : i < min ns.length ms.length
  · have h1 : (ns.map (PyData.int : Int → D))[i]? = some (.int (ns.getD i 0)) := by
      rw [List.getElem?_map, getD_of (by omega)]
      rfl
    have h2 : (ms.map (PyData.int : Int → D))[i]? = some (.int (ms.getD i 0)) := by
      rw [List.getElem?_map, getD_of (by omega)]
      rfl
    rw [pairsD_get (countD_get (by rw [hl]; exact h)) (pairsD_get h1 h2), List.getElem?_map, List.getElem?_range h]
    rfl
  · rw [List.getElem?_eq_none (by rw [pairsD_length, countD_length, hl]; omega), List.getElem?_eq_none (by rw [List.length_map, List.length_range]; omega)]
section
variable {δ : DE} {ta tb te : TE} {K : PySem.W.Frag} {ns ms : List Int} {i j : Int} {d : D}
theorem ei_listI (h : EvD te δ (iL ns)) : EvI (iList K te) δ (ns.map .int) := ei_list h
theorem ei_zipI (ha : EvD ta δ (iL ns)) (hb : EvD tb δ (iL ms)) : EvI (iZip K (tCons ta (tCons tb tNil))) δ ((ns.zip ms).map fun p => .tuple [.int p.1, .int p.2]) := by
  rw [← pairs_ints]
  exact ei_zip ha hb
theorem ei_enumI (ha : EvD ta δ (iL ns)) : EvI (iEnum K (tCons ta tNil)) δ ((List.range ns.length).map fun i => .tuple [.int (i : Nat), .int (ns.getD i 0)]) := by
  rw [← pairs_count]
  exact ei_enum ha
theorem ei_enZI (ha : EvD ta δ (iL ns)) (hb : EvD tb δ (iL ms)) : EvI (iEnZ K (tCons ta (tCons tb tNil))) δ ((List.range (min ns.length ms.length)).map fun i => .tuple [.int (i : Nat), .tuple [.int (ns.getD i 0), .int (ms.getD i 0)]]) := by
  rw [← pairs_two]
  exact ei_enZ ha hb
theorem ei_rangeN {n : Nat} (h : EvD te δ (.int (n : Int))) (hn : n < 4611686018427387904) : EvI (iRng1 (tCons te tNil)) δ ((List.range n).map fun i => .int (i : Nat)) := by
  have e := ei_range h (by omega) (by omega)
  rw [Int.toNat_natCast] at e
  exact e

/-! comprehensions that make ints, bools -/
variable {wi : TI} {g : TG} {tt : TT} {vs : List Nat}
theorem ev_lcI {α : Type} (xs : List α) (em : α → D) (c : α → Bool) (f : α → Int) (js : List Nat) (ex : α → DE) (hi : EvI wi δ (xs.map em)) (hz : xs.length < sizeLine) (hj : ∀ j ∈ js, j ∈ vs)
    (ha : ∀ x ∈ xs, AsgD g (em x) js (wipeD δ vs) (ex x)) (ht : ∀ x ∈ xs, EvT tt (ex x) (c x)) (he : ∀ x ∈ xs, c x = true → EvD te (ex x) (.int (f x))) : EvD (tLc wi g tt te vs) δ (iL ((xs.filter c).map f)) := by
  have h := ev_lc xs em c (fun x => PyData.int (f x)) js ex hi hz hj ha ht he
  rw [iL, List.map_map]
  exact h
theorem ev_lcYI {α : Type} (xs : List α) (em : α → D) (f : α → Int) (js : List Nat) (ex : α → DE) (hi : EvI wi δ (xs.map em)) (hz : xs.length < sizeLine) (hj : ∀ j ∈ js, j ∈ vs)
    (ha : ∀ x ∈ xs, AsgD g (em x) js (wipeD δ vs) (ex x)) (he : ∀ x ∈ xs, EvD te (ex x) (.int (f x))) : EvD (tLc wi g tYes te vs) δ (iL (xs.map f)) := by
  have h := ev_lcI xs em (fun _ => true) f js ex hi hz hj ha (fun _ _ => et_yes) fun x hx _ => he x hx
  rw [List.filter_eq_self.mpr fun _ _ => rfl] at h
  exact h
theorem ev_lcYB {α : Type} (xs : List α) (em : α → D) (f : α → Bool) (js : List Nat) (ex : α → DE) (hi : EvI wi δ (xs.map em)) (hz : xs.length < sizeLine) (hj : ∀ j ∈ js, j ∈ vs)
    (ha : ∀ x ∈ xs, AsgD g (em x) js (wipeD δ vs) (ex x)) (he : ∀ x ∈ xs, EvD te (ex x) (.bool (f x))) : EvD (tLc wi g tYes te vs) δ (.list ((xs.map f).map .bool)) := by
  have h := ev_lc xs em (fun _ => true) (fun x => PyData.bool (f x)) js ex hi hz hj ha (fun _ _ => et_yes) fun x hx _ => he x hx
  rw [List.filter_eq_self.mpr fun _ _ => rfl] at h
  rw [List.map_map]
  exact h

/-! lists -/
theorem ev_catI (ha : EvD ta δ (iL ns)) (hb : EvD tb δ (iL ms)) (hz : ns.length + ms.length ≤ 16777216) : EvD (tOp rCat ta tb) δ (iL (ns ++ ms)) := by
  have h := ev_cat ha hb (by rw [List.length_map, List.length_map, sizeLine_is]; exact hz)
  rw [← List.map_append] at h
  exact h
theorem ev_lenI (h : EvD ta δ (iL ns)) : EvD (tCB (rLenQ K) (tCons ta tNil)) δ (.int (ns.length : Int)) := by
  have e := ev_lenL (K := K) h
  rw [List.length_map] at e
  exact e
theorem ev_ixI {k : Nat} (ha : EvD ta δ (iL ns)) (hb : EvD tb δ (.int (k : Int))) (hk : k < ns.length) : EvD (tOp (rIxL K) ta tb) δ (.int (ns.getD k 0)) :=
  ev_ixL ha hb (atI_nat (by rw [List.getElem?_map, getD_of hk]; rfl))
theorem cut_from {xs : List D} {k : Nat} : cutD xs (some (k : Int)) none = xs.drop k := by
  unfold cutD
  rw [HT.sIx_nat, HT.sIx_none]
  by_cases h : k ≤ xs.length
  · rw [Nat.min_eq_left h]
    exact List.take_of_length_le (by rw [List.length_drop]; omega)
  · rw [Nat.min_eq_right (by omega), List.drop_eq_nil_of_le (Nat.le_refl _), List.drop_eq_nil_of_le (by omega)]
    exact List.take_nil
theorem cut_to {xs : List D} {k : Nat} : cutD xs none (some (k : Int)) = xs.take k := by
  unfold cutD
  rw [HT.sIx_nat, HT.sIx_none, List.drop_zero, Nat.sub_zero]
  by_cases h : k ≤ xs.length
  · rw [Nat.min_eq_left h]
  · rw [Nat.min_eq_right (by omega), List.take_of_length_le (Nat.le_refl _), List.take_of_length_le (by omega)]
theorem cut_mid {xs : List D} {a b : Nat} (h : b ≤ xs.length) : cutD xs (some (a : Int)) (some (b : Int)) = (xs.drop a).take (b - a) := by
  unfold cutD
  rw [HT.sIx_nat, HT.sIx_nat, Nat.min_eq_left h]
  by_cases ha : a ≤ xs.length
  · rw [Nat.min_eq_left ha]
  · rw [Nat.min_eq_right (by omega), List.drop_eq_nil_of_le (Nat.le_refl _), List.drop_eq_nil_of_le (by omega)]
    simp
theorem ev_fromI {k : Nat} (ha : EvD ta δ (iL ns)) (hb : EvD tb δ (.int (k : Int))) : EvD (tSl (rSlL K) ta (tPart tb) tNoPart) δ (iL (ns.drop k)) := by
  have h := ev_slL (K := K) ha (eo_some hb) eo_none
  rw [cut_from, ← List.map_drop] at h
  exact h
theorem ev_toI {k : Nat} (ha : EvD ta δ (iL ns)) (hb : EvD tb δ (.int (k : Int))) : EvD (tSl (rSlL K) ta tNoPart (tPart tb)) δ (iL (ns.take k)) := by
  have h := ev_slL (K := K) ha eo_none (eo_some hb)
  rw [cut_to, ← List.map_take] at h
  exact h
theorem ev_midI {tc : TE} {a b : Nat} (ha : EvD ta δ (iL ns)) (hb : EvD tb δ (.int (a : Int))) (hc : EvD tc δ (.int (b : Int))) (h : b ≤ ns.length) : EvD (tSl (rSlL K) ta (tPart tb) (tPart tc)) δ (iL ((ns.drop a).take (b - a))) := by
  have e := ev_slL (K := K) ha (eo_some hb) (eo_some hc)
  rw [cut_mid (by rw [List.length_map]; exact h), ← List.map_drop, ← List.map_take] at e
  exact e
theorem ev_one {k : Nat} (h : EvD te δ (.int (k : Int))) {z : Int} (e : z = (k : Int)) : EvD te δ (.int z) := by
  rw [e]
  exact h
theorem ev_nat {z : Int} (h : EvD te δ (.int z)) {k : Nat} (e : z = (k : Int)) : EvD te δ (.int (k : Int)) := by
  rw [← e]
  exact h

/-! lists against the empty one -/
theorem canAll : ∀ ns : List Int, PyData.canLayAll0 (ns.map PyData.int) = true
  | [] => by simp [PyData.canLayAll0]
  | n :: ns => by
    rw [List.map_cons]
    simp [PyData.canLayAll0, PyData.canLay0, canAll ns]
theorem depthAll_ints : ∀ ns : List Int, PyData.depthAll (ns.map PyData.int) = 0
  | [] => by simp [PyData.depthAll]
  | n :: ns => by
    rw [List.map_cons]
    simp [PyData.depthAll, PyData.depth, depthAll_ints ns]
theorem shaped_ints (ns : List Int) : SeqAt.shaped (iL ns) = true := by
  unfold SeqAt.shaped
  simp [PyData.canLay0, canAll ns, PyData.depth, depthAll_ints ns]
theorem eqv_nil : ∀ ns : List Int, PyData.eqv (iL ns) (.list []) = decide (ns = [])
  | [] => by simp [PyData.eqv, PyData.eqvAll]
  | n :: ns => by simp [PyData.eqv, PyData.eqvAll]
theorem ev_isNil (ha : EvD ta δ (iL ns)) : EvD (tOp (rEqD K) ta (tLst tNil)) δ (.bool (decide (ns = []))) := by
  have h := ev_eqD (K := K) ha (ev_lst ea_nil (Nat.zero_le _)) (shaped_ints ns) (shaped_ints [])
  rw [eqv_nil] at h
  exact h
theorem ev_notNil (ha : EvD ta δ (iL ns)) : EvD (tOp (rNeD K) ta (tLst tNil)) δ (.bool (!decide (ns = []))) := by
  have h := ev_neD (K := K) ha (ev_lst ea_nil (Nat.zero_le _)) (shaped_ints ns) (shaped_ints [])
  rw [eqv_nil] at h
  exact h
end
end LD
/-! W1: the checks. -/
namespace LD
open PySem PySem.Spec PyProof.Rows L2 LM
section
variable {K : PySem.W.Frag}
theorem zip_le (ns : List Int) : (ns.zip (ns.drop 1)).map (fun p => decide (p.1 ≤ p.2)) = List.zipWith (fun a b => decide (a ≤ b)) ns (ns.drop 1) := by
  rw [List.zip_eq_zipWith, List.map_zipWith]
theorem zip_lt (ns : List Int) : (ns.zip (ns.drop 1)).map (fun p => decide (p.1 < p.2)) = List.zipWith (fun a b => decide (a < b)) ns (ns.drop 1) := by
  rw [List.zip_eq_zipWith, List.map_zipWith]
/-- [f a b for a, b in zip(ns, ms)] of bools, of ints: the pair's slots i, j -/
theorem ev_zipB {δ : DE} {ta tb te : TE} {i j : Nat} {ns ms : List Int} (f : Int → Int → Bool) (ha : EvD ta δ (iL ns)) (hb : EvD tb δ (iL ms)) (hz : ns.length < sizeLine)
    (he : ∀ a b : Int, EvD te (((wipeD δ [i, j]).set i (some (.int a))).set j (some (.int b))) (.bool (f a b))) :
    EvD (tLc (iZip K (tCons ta (tCons tb tNil))) (gTup K 2 (gCons (gName i) (gCons (gName j) gNil))) tYes te [i, j]) δ (.list ((List.zipWith f ns ms).map .bool)) := by
  have h := ev_lcYB (ns.zip ms) (fun p => PyData.tuple [.int p.1, .int p.2]) (fun p => f p.1 p.2) [i, j] (fun p => ((wipeD δ [i, j]).set i (some (.int p.1))).set j (some (.int p.2))) (ei_zipI (K := K) ha hb)
    (by rw [List.length_zip]; omega) (fun k hk => hk) (fun p _ => as_tup (K := K) (n := 2) (as_cons (as_name (i := i)) (as_cons (as_name (i := j)) as_nil))) (fun p _ => he p.1 p.2)
  rw [List.zip_eq_zipWith, List.map_zipWith] at h
  exact h
theorem ev_zipI {δ : DE} {ta tb te : TE} {i j : Nat} {ns ms : List Int} (f : Int → Int → Int) (ha : EvD ta δ (iL ns)) (hb : EvD tb δ (iL ms)) (hz : ns.length < sizeLine)
    (he : ∀ a b : Int, a ∈ ns → b ∈ ms → EvD te (((wipeD δ [i, j]).set i (some (.int a))).set j (some (.int b))) (.int (f a b))) :
    EvD (tLc (iZip K (tCons ta (tCons tb tNil))) (gTup K 2 (gCons (gName i) (gCons (gName j) gNil))) tYes te [i, j]) δ (iL (List.zipWith f ns ms)) := by
  have h := ev_lcYI (ns.zip ms) (fun p => PyData.tuple [.int p.1, .int p.2]) (fun p => f p.1 p.2) [i, j] (fun p => ((wipeD δ [i, j]).set i (some (.int p.1))).set j (some (.int p.2))) (ei_zipI (K := K) ha hb)
    (by rw [List.length_zip]; omega) (fun k hk => hk) (fun p _ => as_tup (K := K) (n := 2) (as_cons (as_name (i := i)) (as_cons (as_name (i := j)) as_nil))) (fun p hp => he p.1 p.2 (List.of_mem_zip hp).1 (List.of_mem_zip hp).2)
  rw [List.zip_eq_zipWith, List.map_zipWith] at h
  exact h
theorem w_never_falls (ds : List D) (r : D) (h : S_never_falls ds r) : W (t_never_falls K) (startD 3 ds) (fun _ => r = .none) no no (fun d => d = r) := by
  obtain ⟨ns, rfl, hz, rfl⟩ := h
  exact w_ret (ev_all (ev_zipB (fun a b => decide (a ≤ b)) (ev_var rfl) (ev_fromI (k := 1) (ev_var rfl) ev_int) hz fun a b => ev_le (ev_var rfl) (ev_var rfl))) rfl
theorem w_always_rises (ds : List D) (r : D) (h : S_always_rises ds r) : W (t_always_rises K) (startD 3 ds) (fun _ => r = .none) no no (fun d => d = r) := by
  obtain ⟨ns, rfl, hz, rfl⟩ := h
  exact w_ret (ev_all (ev_zipB (fun a b => decide (a < b)) (ev_var rfl) (ev_fromI (k := 1) (ev_var rfl) ev_int) hz fun a b => ev_lt (ev_var rfl) (ev_var rfl))) rfl
theorem w_need_number (ds : List D) (r : D) (h : S_need_number ds r) : W (t_need_number K) (startD 2 ds) (fun _ => r = .none) no no (fun d => d = r) := by
  obtain ⟨n, k, rfl, hk, rfl⟩ := h
  refine w_if (et_test (ev_lt (ev_var rfl) (ev_var rfl))) (fun e => ?_) fun _ => w_next rfl
  have := of_decide_eq_true e
  omega
theorem w_is_ladder (ds : List D) (r : D) (h : S_is_ladder ds r) : W (t_is_ladder K) (startD 4 ds) (fun _ => r = .none) no no (fun d => d = r) := by
  obtain ⟨l, rfl, ok, rfl⟩ := h
  have pos := ok.pos
  have h1 : l.early.length ≤ 1000 := ok.early
  have h2 : l.turn.length ≤ 1000000 := ok.turn
  have hz : (ladList l).length = 1 + l.early.length + l.turn.length + 1 := by
    unfold ladList
    simp only [List.length_append, List.length_cons, List.length_nil]
  refine x_asg (ev_var rfl) (as_tup (as_cons as_name (as_cons as_name (as_cons as_name as_nil)))) ?_
  refine x_if (et_or (et_test (ev_isNil (ev_var rfl))) fun _ => et_test (ev_lt (ev_var rfl) ev_int)) (fun e => ?_) fun _ => ?_
  · rw [Bool.or_eq_true, decide_eq_true_eq, decide_eq_true_eq] at e
    rcases e with e | e
    · rw [e] at pos
      exact absurd pos (Nat.lt_irrefl _)
    · have := ok.r0
      omega
  · refine w_ret (ev_call (ea_cons (ev_catI (ev_catI (ev_catI (ev_lst (ea_cons ev_int ea_nil)) (ev_var rfl) ?_) (ev_var rfl) ?_) (ev_lst (ea_cons (ev_add (ev_ixI (k := 0) (ev_var rfl) ev_int pos) (ev_var rfl)) ea_nil)) ?_) ea_nil) ⟨ladList l, rfl, ?_, ?_⟩) rfl
    · simp only [List.length_cons, List.length_nil]
      omega
    · simp only [List.length_append, List.length_cons, List.length_nil]
      omega
    · simp only [List.length_append, List.length_cons, List.length_nil]
      omega
    · rw [hz, sizeLine_is]
      omega
    · rw [ok.falls]
theorem risesB_of : ∀ {ns : List Int}, ns.Pairwise (· < ·) → risesB ns = true
  | [], _ => rfl
  | [_], _ => rfl
  | a :: b :: r, h => by
    have p := List.pairwise_cons.mp h
    have ih := risesB_of p.2
    unfold risesB at ih ⊢
    simp only [List.drop_succ_cons, List.drop_zero, List.zipWith_cons_cons, List.all_cons, id_eq] at ih ⊢
    rw [ih, decide_eq_true (p.1 b List.mem_cons_self)]
    rfl
theorem asc_list {xs : List Int} {n : Nat} (h : Asc xs n) : ([-1] ++ xs ++ [(n : Int)]).Pairwise (· < ·) := by
  rw [List.pairwise_append, List.pairwise_append]
  refine ⟨⟨List.pairwise_singleton _ _, h.1, fun a ha b hb => ?_⟩, List.pairwise_singleton _ _, fun a ha b hb => ?_⟩
  · rw [List.mem_singleton.mp ha]
    have := (h.2 b hb).1
    omega
  · rw [List.mem_singleton.mp hb]
    rcases List.mem_append.mp ha with z | z
    · rw [List.mem_singleton.mp z]
      omega
    · exact (h.2 a z).2
theorem asc_length : ∀ {xs : List Int} {n : Nat}, Asc xs n → xs.length ≤ n := by
  intro xs n h
  -- the members lie apart
  have go : ∀ (xs : List Int) (lo : Int), xs.Pairwise (· < ·) → (∀ x ∈ xs, lo ≤ x ∧ x < (n : Int)) → (xs.length : Int) ≤ max 0 ((n : Int) - lo) := by
    intro xs
    induction xs with
    | nil => intro lo _ _; simp only [List.length_nil]; omega
    | cons x xs ih =>
      intro lo p b
      have q := List.pairwise_cons.mp p
      have b0 := b x List.mem_cons_self
      have h2 := ih (x + 1) q.2 fun y hy => ⟨by have := q.1 y hy; omega, (b y (List.mem_cons_of_mem _ hy)).2⟩
      rw [List.length_cons]
      omega
  have := go xs 0 h.1 h.2
  omega
theorem w_is_set (ds : List D) (r : D) (h : S_is_set ds r) : W (t_is_set K) (startD 5 ds) (fun _ => r = .none) no no (fun d => d = r) := by
  obtain ⟨s, rfl, ok, rfl⟩ := h
  have h1 : s.first ≤ 1000 := ok.first
  have h2 : s.len ≤ 1000000 := ok.len
  have pos := ok.ok.pos
  have l1 := asc_length ok.ok.early
  have l2 := asc_length ok.ok.found
  refine x_asg (ev_var rfl) (as_tup (as_cons as_name (as_cons as_name (as_cons as_name (as_cons as_name as_nil))))) ?_
  refine x_if (et_or (et_test (ev_lt (ev_var rfl) ev_int)) fun _ => et_test (ev_lt (ev_var rfl) ev_int)) (fun e => ?_) fun _ => ?_
  · rw [Bool.or_eq_true, decide_eq_true_eq, decide_eq_true_eq] at e
    omega
  · have c1 : ([-1] ++ s.early ++ [(s.first : Int)]).length = s.early.length + 2 := by
      simp only [List.length_append, List.length_cons, List.length_nil]
      omega
    have c2 : ([-1] ++ s.found ++ [(s.len : Int)]).length = s.found.length + 2 := by
      simp only [List.length_append, List.length_cons, List.length_nil]
      omega
    have e1 := risesB_of (asc_list ok.ok.early)
    have e2 := risesB_of (asc_list ok.ok.found)
    refine w_ret ((ev_andV (a := true) (b := true) (ev_call (ea_cons (ev_catI (ev_catI (ev_lst (ea_cons (ev_neg ev_int) ea_nil)) (ev_var rfl) ?_) (ev_lst (ea_cons (ev_var rfl) ea_nil)) ?_) ea_nil) ⟨[-1] ++ s.early ++ [(s.first : Int)], rfl, ?_, by rw [e1]⟩) fun _ =>
      ev_call (ea_cons (ev_catI (ev_catI (ev_lst (ea_cons (ev_neg ev_int) ea_nil)) (ev_var rfl) ?_) (ev_lst (ea_cons (ev_var rfl) ea_nil)) ?_) ea_nil) ⟨[-1] ++ s.found ++ [(s.len : Int)], rfl, ?_, by rw [e2]⟩)) rfl
    · simp only [List.length_cons, List.length_nil]
      omega
    · simp only [List.length_append, List.length_cons, List.length_nil]
      omega
    · rw [c1, sizeLine_is]
      omega
    · simp only [List.length_cons, List.length_nil]
      omega
    · simp only [List.length_append, List.length_cons, List.length_nil]
      omega
    · rw [c2, sizeLine_is]
      omega
theorem w_need_ladder (ds : List D) (r : D) (h : S_need_ladder ds r) : W (t_need_ladder K) (startD 1 ds) (fun _ => r = .none) no no (fun d => d = r) := by
  obtain ⟨l, rfl, ok, rfl⟩ := h
  exact w_if (et_not (et_B (ev_call (ea_cons (ev_var rfl) ea_nil) ⟨l, rfl, ok, rfl⟩))) (fun e => nomatch e) fun _ => w_next rfl
theorem w_need_set (ds : List D) (r : D) (h : S_need_set ds r) : W (t_need_set K) (startD 1 ds) (fun _ => r = .none) no no (fun d => d = r) := by
  obtain ⟨l, rfl, ok, rfl⟩ := h
  exact w_if (et_not (et_B (ev_call (ea_cons (ev_var rfl) ea_nil) ⟨l, rfl, ok, rfl⟩))) (fun e => nomatch e) fun _ => w_next rfl
theorem w_need_two_days (ds : List D) (r : D) (h : S_need_two_days ds r) : W (t_need_two_days K) (startD 2 ds) (fun _ => r = .none) no no (fun d => d = r) := by
  obtain ⟨s, t, rfl, h1, h2, rfl⟩ := h
  exact x_drop (ev_call (ea_cons (ev_var rfl) ea_nil) ⟨s, rfl, h1, rfl⟩) (w_drop (ev_call (ea_cons (ev_var rfl) ea_nil) ⟨t, rfl, h2, rfl⟩) rfl)
theorem w_need_two_ladders (ds : List D) (r : D) (h : S_need_two_ladders ds r) : W (t_need_two_ladders K) (startD 2 ds) (fun _ => r = .none) no no (fun d => d = r) := by
  obtain ⟨s, t, rfl, h1, h2, rfl⟩ := h
  exact x_drop (ev_call (ea_cons (ev_var rfl) ea_nil) ⟨s, rfl, h1, rfl⟩) (w_drop (ev_call (ea_cons (ev_var rfl) ea_nil) ⟨t, rfl, h2, rfl⟩) rfl)
theorem w_common_divisor (ds : List D) (r : D) (h : S_common_divisor ds r) : W (t_common_divisor K) (startD 2 ds) (fun _ => r = .none) no no (fun d => d = r) := by
  obtain ⟨a, b, rfl, rfl⟩ := h
  refine w_seq (M := fun δ => δ = [some (.int ((Nat.gcd a b : Nat) : Int)), some (.int 0)]) (w_while (fun m δ => ∃ x : Nat, δ = [some (.int (x : Int)), some (.int (m : Int))] ∧ Nat.gcd x m = Nat.gcd a b) b ⟨a, rfl, rfl⟩ ?_) ?_
  · rintro m δ ⟨x, rfl, hg⟩
    refine ⟨_, et_test (ev_gt (ev_var rfl) ev_int), fun e => ?_, fun e => ?_⟩
    · have hm : 0 < m := by
        have := of_decide_eq_true e
        omega
      refine w_par (ea_cons (ev_var rfl) (ea_cons (ev_mod (ev_var rfl) (ev_var rfl) (by omega)) ea_nil)) ⟨x % m, Nat.mod_lt _ hm, m, rfl, ?_⟩
      rw [← hg, Nat.gcd_comm x m, Nat.gcd_rec m x, Nat.gcd_comm]
    · have hm : m = 0 := by
        have := of_decide_eq_false e
        omega
      subst hm
      rw [Nat.gcd_zero_right] at hg
      rw [hg]
      rfl
  · rintro δ rfl
    exact w_ret (ev_var rfl) rfl
theorem w_common_multiple (ds : List D) (r : D) (h : S_common_multiple ds r) : W (t_common_multiple K) (startD 2 ds) (fun _ => r = .none) no no (fun d => d = r) := by
  obtain ⟨a, b, rfl, h1, h2, h3, h4, rfl⟩ := h
  have hg : 0 < Nat.gcd a b := Nat.gcd_pos_of_pos_left b h1
  have hl : Nat.gcd a b ≤ a := Nat.le_of_dvd h1 (Nat.gcd_dvd_left a b)
  refine w_ret ((ev_div (ev_mul (ev_var rfl) (ev_var rfl) (.inl ⟨by omega, by omega⟩)) (ev_call (ea_cons (ev_var rfl) (ea_cons (ev_var rfl) ea_nil)) ⟨a, b, rfl, rfl⟩) (by omega) (by omega)).to ?_) rfl
  unfold Nat.lcm
  rw [Int.natCast_ediv, Int.natCast_mul]
end
end LD
/-! Dat6: one list that changes, in slot i: it stands in the heap, not in the view. -/
namespace LD
open PySem PySem.Spec PyProof.Rows L2 LM
structure MSt (p : Addr) (F H : Hp) (acc : List D) : Prop where
  f : F p = none
  s : Same F H
  l : ∃ vs, H p = some (.lst vs) ∧ Rps F vs acc
structure MExt (p : Addr) (F H F' H' : Hp) : Prop where
  h : ∀ b, b ≠ p → ∀ o, H b = some o → H' b = some o
  f : Same F F'
  n : ∀ b, H b ≠ none → F' b = F b
  p : H' p ≠ none
theorem MSt.ne {p : Addr} {F H : Hp} {acc : List D} (m : MSt p F H acc) : H p ≠ none := by
  obtain ⟨vs, h, _⟩ := m.l
  rw [h]
  exact fun z => nomatch z
theorem MExt.refl {p : Addr} {F H : Hp} (h : H p ≠ none) : MExt p F H F H := ⟨fun _ _ _ e => e, Same.refl _, fun _ _ => rfl, h⟩
theorem MExt.some_of {p : Addr} {F H F' H' : Hp} (m : MExt p F H F' H') {b : Addr} (h : H b ≠ none) : H' b ≠ none := by
  by_cases hb : b = p
  · rw [hb]
    exact m.p
  · cases e : H b with
    | none => exact absurd e h
    | some o =>
      rw [m.h b hb o e]
      exact fun z => nomatch z
theorem MExt.trans {p : Addr} {F H F1 H1 F2 H2 : Hp} (a : MExt p F H F1 H1) (b : MExt p F1 H1 F2 H2) : MExt p F H F2 H2 :=
  ⟨fun c hc o e => b.h c hc o (a.h c hc o e), a.f.trans b.f, fun c h => (b.n c (a.some_of h)).trans (a.n c h), b.p⟩
/-- what only makes new data leaves the list as it is -/
theorem MExt.of {p : Addr} {F H F' H' : Hp} (e : Ext F H F' H') (h : H p ≠ none) : MExt p F H F' H' := ⟨fun b _ o q => e.h b o q, e.f, e.n, Same.some_of e.h h⟩
theorem MSt.ext {p : Addr} {F H F' H' : Hp} {acc : List D} (m : MSt p F H acc) (e : Ext F H F' H') : MSt p F' H' acc := by
  obtain ⟨vs, h, r⟩ := m.l
  exact ⟨(e.n p m.ne).trans m.f, e.s, vs, e.h _ _ h, r.mono e.f⟩
theorem MSt.put {p : Addr} {F H : Hp} {acc acc' : List D} {vs' : List V} (m : MSt p F H acc) (r : Rps F vs' acc') : MSt p F (upd H p (.lst vs')) acc' ∧ MExt p F H F (upd H p (.lst vs')) :=
  ⟨⟨m.f, fun b o e => by
    have : b ≠ p := fun z => by rw [z, m.f] at e; cases e
    rw [upd_ne this]
    exact m.s b o e, vs', upd_same, r⟩, fun b hb o e => by rw [upd_ne hb]; exact e, Same.refl _, fun _ _ => rfl, by rw [upd_same]; exact fun z => nomatch z⟩

/-! ### statements -/
def WM (i : Nat) (t : TS) (δ : DE) (acc : List D) (N B C : DE → List D → Prop) (R : D → List D → Prop) : Prop := ∀ (σ : L2.St) (F H : Hp) (p : Addr), MSt p F H acc → Sl σ F δ → σ[i]? = some (some (.ref p)) → ∀ E : Ends,
  (∀ σ' F' H' δ' acc', MExt p F H F' H' → MSt p F' H' acc' → Sl σ' F' δ' → σ'[i]? = some (some (.ref p)) → N δ' acc' → E.nx σ' H') →
  (∀ σ' F' H' δ' acc', MExt p F H F' H' → MSt p F' H' acc' → Sl σ' F' δ' → σ'[i]? = some (some (.ref p)) → B δ' acc' → E.bk σ' H') →
  (∀ σ' F' H' δ' acc', MExt p F H F' H' → MSt p F' H' acc' → Sl σ' F' δ' → σ'[i]? = some (some (.ref p)) → C δ' acc' → E.ct σ' H') →
  (∀ v F' H' d acc', MExt p F H F' H' → MSt p F' H' acc' → Rp F' v d → R d acc' → E.rt v H') → t E σ H
abbrev no2 : DE → List D → Prop := fun _ _ => False
abbrev noR : D → List D → Prop := fun _ _ => False
section
variable {i : Nat} {δ δ1 : DE} {acc : List D} {N B C M : DE → List D → Prop} {R : D → List D → Prop} {t u : TS} {te : TE} {c : TT} {d : D} {g : TG} {js : List Nat} {K : PySem.W.Frag}
theorem WM.imp {N' B' C' : DE → List D → Prop} {R' : D → List D → Prop} (h : WM i t δ acc N B C R) (hn : ∀ δ a, N δ a → N' δ a) (hb : ∀ δ a, B δ a → B' δ a) (hc : ∀ δ a, C δ a → C' δ a) (hr : ∀ d a, R d a → R' d a) : WM i t δ acc N' B' C' R' :=
  fun σ F H p m hl hi E n b c r => h σ F H p m hl hi E (fun σ' F' H' δ' a e m l k x => n σ' F' H' δ' a e m l k (hn _ _ x)) (fun σ' F' H' δ' a e m l k x => b σ' F' H' δ' a e m l k (hb _ _ x))
    (fun σ' F' H' δ' a e m l k x => c σ' F' H' δ' a e m l k (hc _ _ x)) fun v F' H' d a e m p x => r v F' H' d a e m p (hr _ _ x)
theorem wm_next (h : N δ acc) : WM i tNext δ acc N B C R := fun σ F H p m hl hi E n b c r => n σ F H δ acc (MExt.refl m.ne) m hl hi h
theorem wm_seq (h : WM i t δ acc M B C R) (k : ∀ δ' acc', M δ' acc' → WM i u δ' acc' N B C R) : WM i (tSeq t u) δ acc N B C R := fun σ F H p m hl hi E n b c r =>
  h σ F H p m hl hi { E with nx := u E } (fun σ1 F1 H1 δ1 a1 e1 m1 l1 k1 x => k δ1 a1 x σ1 F1 H1 p m1 l1 k1 E (fun σ2 F2 H2 δ2 a2 e2 m2 l2 k2 y => n σ2 F2 H2 δ2 a2 (e1.trans e2) m2 l2 k2 y)
    (fun σ2 F2 H2 δ2 a2 e2 m2 l2 k2 y => b σ2 F2 H2 δ2 a2 (e1.trans e2) m2 l2 k2 y) (fun σ2 F2 H2 δ2 a2 e2 m2 l2 k2 y => c σ2 F2 H2 δ2 a2 (e1.trans e2) m2 l2 k2 y) fun v F2 H2 d a2 e2 m2 q y => r v F2 H2 d a2 (e1.trans e2) m2 q y) b c r
theorem wm_asg (h : EvD te δ d) (ha : AsgD g d js δ δ1) (hj : i ∉ js) (hn : N δ1 acc) : WM i (tAsg te g) δ acc N B C R := fun σ F H p m hl hi E n b c r =>
  h σ F H m.s hl _ fun v F1 H1 e1 r1 => ha v σ F1 H1 e1.s (hl.mono e1.f) r1 _ fun σ1 l1 o1 => n σ1 F1 H1 δ1 acc (MExt.of e1 m.ne) (m.ext e1) l1 (by rw [o1.2 i hj]; exact hi) hn
theorem wm_set {k : Nat} (h : EvD te δ d) (hk : i ≠ k) (hn : N (δ.set k (some d)) acc) : WM i (tAsg te (gName k)) δ acc N B C R := wm_asg h as_name (fun z => hk (List.mem_singleton.mp z)) hn
theorem wm_par {k l : Nat} {ta : TA} {d1 d2 : D} (h : EvA ta δ [d1, d2]) (hk : i ≠ k) (hl' : i ≠ l) (hn : N ((δ.set k (some d1)).set l (some d2)) acc) : WM i (tPar k l ta) δ acc N B C R := fun σ F H p m hl hi E n b c r =>
  h σ F H m.s hl _ fun vs F1 H1 e1 r1 => by
    obtain ⟨v, w, rfl, r2, r3⟩ := rps2 r1
    exact ⟨v, w, rfl, n _ F1 H1 _ acc (MExt.of e1 m.ne) (m.ext e1) (((hl.mono e1.f).set r2 k).set r3 l) (by rw [List.getElem?_set_ne (Ne.symm hl'), List.getElem?_set_ne (Ne.symm hk)]; exact hi) hn⟩
theorem wm_aug {k : Nat} {f : Int → Int → Int} {a b : Int} (hx : δ[k]? = some (some (.int a))) (h : EvD te δ (.int b)) (hk : i ≠ k) (hn : N (δ.set k (some (.int (f a b)))) acc) : WM i (tAug k te (ipI f)) δ acc N B C R := fun σ F H p m hl hi E n bk ct r => by
  obtain ⟨x, h1, h2⟩ := hl.2 k _ hx
  exact ⟨x, h1, h σ F H m.s hl _ fun v F1 H1 e1 r1 => ⟨a, b, h2.int_of, r1.int_of, n _ F1 H1 _ acc (MExt.of e1 m.ne) (m.ext e1) ((hl.mono e1.f).set (.int _) k) (by rw [List.getElem?_set_ne (Ne.symm hk)]; exact hi) hn⟩⟩
theorem wm_if {b : Bool} (h : EvT c δ b) (h1 : b = true → WM i t δ acc N B C R) (h2 : b = false → WM i u δ acc N B C R) : WM i (tIfS c t u) δ acc N B C R := fun σ F H p m hl hi E n bk ct r =>
  h σ F H m.s hl _ fun F1 H1 e1 => by
    have back : ∀ {t : TS}, WM i t δ acc N B C R → t E σ H1 := fun w => w σ F1 H1 p (m.ext e1) (hl.mono e1.f) hi E (fun σ2 F2 H2 δ2 a2 e2 m2 l2 k2 y => n σ2 F2 H2 δ2 a2 ((MExt.of e1 m.ne).trans e2) m2 l2 k2 y)
      (fun σ2 F2 H2 δ2 a2 e2 m2 l2 k2 y => bk σ2 F2 H2 δ2 a2 ((MExt.of e1 m.ne).trans e2) m2 l2 k2 y) (fun σ2 F2 H2 δ2 a2 e2 m2 l2 k2 y => ct σ2 F2 H2 δ2 a2 ((MExt.of e1 m.ne).trans e2) m2 l2 k2 y)
      fun v F2 H2 d a2 e2 m2 q y => r v F2 H2 d a2 ((MExt.of e1 m.ne).trans e2) m2 q y
    cases b with
    | true =>
      rw [if_pos rfl]
      exact back (h1 rfl)
    | false =>
      rw [if_neg Bool.false_ne_true]
      exact back (h2 rfl)
theorem wm_ret (h : EvD te δ d) (hr : R d acc) : WM i (tRet te) δ acc N B C R := fun σ F H p m hl hi E n b c r => h σ F H m.s hl _ fun v F1 H1 e1 r1 => r v F1 H1 d acc (MExt.of e1 m.ne) (m.ext e1) r1 hr
theorem wm_append (h : EvD te δ d) (hz : acc.length < 16777216) (hn : N δ (acc ++ [d])) : WM i (tDrop (tBM K "list" rAppend (tVar i) (tCons te tNil))) δ acc N B C R := fun σ F H p m hl hi E n b c r => by
  obtain ⟨vs, hp, rp⟩ := m.l
  refine ⟨.ref p, hi, .inl ⟨rfl, _, SqL.of hp⟩, h σ F H m.s hl _ fun v F1 H1 e1 r1 => ?_⟩
  have hp1 := e1.h _ _ hp
  have m1 := m.ext e1
  obtain ⟨m2, x2⟩ := m1.put ((rp.mono e1.f).append (.cons r1 .nil))
  exact ⟨p, vs, v, rfl, rfl, hp1, by rw [rp.length, sizeLine_is]; exact hz, n σ F1 _ δ _ ((MExt.of e1 m.ne).trans x2) m2 (hl.mono e1.f) hi hn⟩
theorem wm_while (I : Nat → DE → List D → Prop) (m0 : Nat) (h0 : I m0 δ acc)
    (hs : ∀ m δ acc, I m δ acc → ∃ b, EvT c δ b ∧ (b = true → WM i t δ acc (fun δ' a' => ∃ m', m' < m ∧ I m' δ' a') N (fun δ' a' => ∃ m', m' < m ∧ I m' δ' a') R) ∧ (b = false → N δ acc)) : WM i (tWhile c t) δ acc N B C R := fun σ F H p ms hl hi E n bk ct r => by
  refine ⟨fun m σ' H' => ∃ δ' F' a', MExt p F H F' H' ∧ MSt p F' H' a' ∧ Sl σ' F' δ' ∧ σ'[i]? = some (some (.ref p)) ∧ I m δ' a', ⟨m0, δ, F, acc, MExt.refl ms.ne, ms, hl, hi, h0⟩, ?_⟩
  rintro m σ' H' ⟨δ', F', a', e', m', l', k', i'⟩
  obtain ⟨b, hc, ht, hf⟩ := hs m δ' a' i'
  refine hc σ' F' H' m'.s l' _ fun F1 H1 e1 => ?_
  have e01 := e'.trans (MExt.of e1 m'.ne)
  cases b with
  | true =>
    rw [if_pos rfl]
    refine ⟨fun σ2 H2 => ∃ δ2 F2 a2, MExt p F H F2 H2 ∧ MSt p F2 H2 a2 ∧ Sl σ2 F2 δ2 ∧ σ2[i]? = some (some (.ref p)) ∧ ∃ m', m' < m ∧ I m' δ2 a2, fun σ2 H2 ⟨δ2, F2, a2, e2, m2, l2, k2, m', hm, i2⟩ => ⟨m', hm, δ2, F2, a2, e2, m2, l2, k2, i2⟩, ?_⟩
    exact ht rfl σ' F1 H1 p (m'.ext e1) (l'.mono e1.f) k' _ (fun σ2 F2 H2 δ2 a2 e2 m2 l2 k2 x => ⟨δ2, F2, a2, e01.trans e2, m2, l2, k2, x⟩) (fun σ2 F2 H2 δ2 a2 e2 m2 l2 k2 x => n σ2 F2 H2 δ2 a2 (e01.trans e2) m2 l2 k2 x)
      (fun σ2 F2 H2 δ2 a2 e2 m2 l2 k2 x => ⟨δ2, F2, a2, e01.trans e2, m2, l2, k2, x⟩) fun v F2 H2 d a2 e2 m2 q x => r v F2 H2 d a2 (e01.trans e2) m2 q x
  | false =>
    rw [if_neg Bool.false_ne_true]
    exact n σ' F1 H1 δ' a' e01 (m'.ext e1) (l'.mono e1.f) k' (hf rfl)
theorem wm_for {wi : TI} {ds : List D} (I : Nat → DE → List D → Prop) (hi : EvI wi δ ds) (h0 : I 0 δ acc)
    (hs : ∀ k δ acc d, ds[k]? = some d → I k δ acc → ∃ js δ', AsgD g d js δ δ' ∧ i ∉ js ∧ WM i t δ' acc (I (k + 1)) N (I (k + 1)) R) (hd : ∀ δ acc, I ds.length δ acc → N δ acc) :
    WM i (tFor wi g t) δ acc N B C R := fun σ F H p ms hl hip E n bk ct r => by
  refine hi σ F H ms.s hl _ fun J F1 H1 G e1 g1 gv => ?_
  have x1 := MExt.of e1 ms.ne
  refine ⟨fun k m σ' H' => m = ds.length - k ∧ k ≤ ds.length ∧ ∃ δ' F' a', MExt p F1 H1 F' H' ∧ MSt p F' H' a' ∧ Sl σ' F' δ' ∧ σ'[i]? = some (some (.ref p)) ∧ I k δ' a', ⟨ds.length, by omega, Nat.zero_le _, δ, F1, acc, MExt.refl (ms.ext e1).ne, ms.ext e1, hl.mono e1.f, hip, h0⟩, ?_⟩
  rintro k m σ' H' ⟨rfl, hk2, δ', F', a', e', m', l', k', i'⟩
  have g' : G F' := gv.mono _ _ e'.f g1
  by_cases hlt : k < ds.length
  · refine .inr ⟨gv.go k F' H' m'.s g' hlt, fun σ2 H2 => ∃ δ2 F2 a2, MExt p F1 H1 F2 H2 ∧ MSt p F2 H2 a2 ∧ Sl σ2 F2 δ2 ∧ σ2[i]? = some (some (.ref p)) ∧ I (k + 1) δ2 a2,
      fun σ2 H2 ⟨δ2, F2, a2, w⟩ => ⟨ds.length - (k + 1), by omega, rfl, hlt, δ2, F2, a2, w⟩, fun x H2 y => ?_⟩
    obtain ⟨F2, d, e2, hd2, rd⟩ := gv.yld k F' H' x H2 m'.s g' hlt y
    obtain ⟨js, δ3, as, hj, w3⟩ := hs k δ' a' d hd2 i'
    have x02 := e'.trans (MExt.of e2 m'.ne)
    refine as x σ' F2 H2 e2.s (l'.mono e2.f) rd _ fun σ3 l3 o3 => ?_
    exact w3 σ3 F2 H2 p (m'.ext e2) l3 (by rw [o3.2 i hj]; exact k') _ (fun σ4 F4 H4 δ4 a4 e4 m4 l4 k4 x => ⟨δ4, F4, a4, x02.trans e4, m4, l4, k4, x⟩) (fun σ4 F4 H4 δ4 a4 e4 m4 l4 k4 x => n σ4 F4 H4 δ4 a4 (x1.trans (x02.trans e4)) m4 l4 k4 x)
      (fun σ4 F4 H4 δ4 a4 e4 m4 l4 k4 x => ⟨δ4, F4, a4, x02.trans e4, m4, l4, k4, x⟩) fun v F4 H4 d a4 e4 m4 q x => r v F4 H4 d a4 (x1.trans (x02.trans e4)) m4 q x
  · have e : k = ds.length := by omega
    subst e
    exact .inl ⟨gv.stop F' H' m'.s g', n σ' F' H' δ' a' (x1.trans e') m' l' k' (hd δ' a' i')⟩
end

/-! ### a list made here, changed for a while, then left as it is -/
def WX (i : Nat) (t : TS) (δ : DE) (acc : List D) (N B C : DE → Prop) (R : D → Prop) : Prop := ∀ (σ : L2.St) (F H F0 H0 : Hp) (p : Addr), H0 p = none → Same H0 H → Same F0 F → (∀ b, H0 b ≠ none → F b = F0 b) → MSt p F H acc → Sl σ F δ → σ[i]? = some (some (.ref p)) → ∀ E : Ends,
  (∀ σ' F' H' δ', Ext F0 H0 F' H' → Sl σ' F' δ' → N δ' → E.nx σ' H') → (∀ σ' F' H' δ', Ext F0 H0 F' H' → Sl σ' F' δ' → B δ' → E.bk σ' H') → (∀ σ' F' H' δ', Ext F0 H0 F' H' → Sl σ' F' δ' → C δ' → E.ct σ' H') →
  (∀ v F' H' d, Ext F0 H0 F' H' → Rp F' v d → R d → E.rt v H') → t E σ H
section
variable {i : Nat} {δ : DE} {acc : List D} {N B C : DE → Prop} {R : D → Prop} {M : DE → List D → Prop} {t u : TS}
theorem x_mlist (hi : i < δ.length) (h : WX i u (δ.set i none) [] N B C R) : W (tSeq (tAsg (tLst tNil) (gName i)) u) δ N B C R := fun σ F H s hl E n b c r => by
  refine ⟨Nat.zero_le _, fun p hp => ?_⟩
  have hF : F p = none := same_none s hp
  have ms : MSt p F (upd H p (.lst [])) [] := ⟨hF, fun b o e => same_upd hp _ _ (s b o e), [], upd_same, .nil⟩
  exact h (σ.set i (some (.ref p))) F (upd H p (.lst [])) F H p hp (same_upd hp) (Same.refl _) (fun _ _ => rfl) ms (hl.hide i _) (List.getElem?_set_self (by rw [hl.1]; exact hi)) E n b c r
theorem wx_seq (h : WM i t δ acc M no2 no2 noR) (k : ∀ δ' acc', M δ' acc' → WX i u δ' acc' N B C R) : WX i (tSeq t u) δ acc N B C R := fun σ F H F0 H0 p h0 hh hf hn m hl hi E n b c r =>
  h σ F H p m hl hi { E with nx := u E } (fun σ1 F1 H1 δ1 a1 e1 m1 l1 k1 x => by
    have hne : ∀ b, H0 b ≠ none → b ≠ p := fun b hb z => hb (z ▸ h0)
    refine k δ1 a1 x σ1 F1 H1 F0 H0 p h0 (fun b o e => e1.h b (hne b (by rw [e]; exact fun z => nomatch z)) o (hh b o e)) (hf.trans e1.f) (fun b hb => (e1.n b (Same.some_of hh hb)).trans (hn b hb)) m1 l1 k1 E n b c r)
    (fun _ _ _ _ _ _ _ _ _ x => x.elim) (fun _ _ _ _ _ _ _ _ _ x => x.elim) (fun _ _ _ _ _ _ _ _ x => x.elim)
theorem wx_freeze (h : W t (δ.set i (some (.list acc))) N B C R) : WX i t δ acc N B C R := fun σ F H F0 H0 p h0 hh hf hn m hl hi E n b c r => by
  obtain ⟨vs, hp, rp⟩ := m.l
  have x0 : Ext F0 H0 (upd F p (.lst vs)) H := Ext.freeze h0 hh hf m.s hn m.f hp
  have r1 : Rp (upd F p (.lst vs)) (.ref p) (.list acc) := .lst upd_same (rp.mono (same_upd m.f))
  have hil : i < σ.length := (List.getElem?_eq_some_iff.mp hi).1
  have es : σ.set i (some (.ref p)) = σ := by
    refine List.ext_getElem? fun k => ?_
    by_cases hk : i = k
    · subst hk
      rw [List.getElem?_set_self hil, hi]
    · rw [List.getElem?_set_ne hk]
  have l1 := (hl.mono (same_upd (o := .lst vs) m.f)).set r1 i
  rw [es] at l1
  exact h σ (upd F p (.lst vs)) H x0.s l1 E (fun σ2 F2 H2 δ2 e2 l2 x => n σ2 F2 H2 δ2 (x0.trans e2) l2 x) (fun σ2 F2 H2 δ2 e2 l2 x => b σ2 F2 H2 δ2 (x0.trans e2) l2 x) (fun σ2 F2 H2 δ2 e2 l2 x => c σ2 F2 H2 δ2 (x0.trans e2) l2 x)
    fun v F2 H2 d e2 q x => r v F2 H2 d (x0.trans e2) q x
end
end LD
/-! W2: numbers of ladders. -/
namespace LM
theorem firstN_length (f : Nat → Int) (n : Nat) : (firstN f n).length = n := by
  unfold firstN
  rw [List.length_map, List.length_range]
theorem firstN_get {f : Nat → Int} {n i : Nat} (h : i < n) : (firstN f n)[i]? = some (f i) := by
  unfold firstN
  rw [List.getElem?_map, List.getElem?_range h]
  rfl
theorem firstN_getD {f : Nat → Int} {n i : Nat} (h : i < n) : (firstN f n).getD i 0 = f i := by
  rw [List.getD_eq_getElem?_getD, firstN_get h]
  rfl
/-- a list is so many of f -/
theorem is_firstN {xs : List Int} {f : Nat → Int} {n : Nat} (hl : xs.length = n) (h : ∀ i, i < n → xs[i]? = some (f i)) : xs = firstN f n := by
  refine List.ext_getElem? fun i => ?_
  by_cases hi : i < n
  · rw [h i hi, firstN_get hi]
  · rw [List.getElem?_eq_none (by omega), List.getElem?_eq_none (by rw [firstN_length]; omega)]
theorem firstN_congr {f g : Nat → Int} {n : Nat} (h : ∀ i, i < n → f i = g i) : firstN f n = firstN g n :=
  is_firstN (firstN_length f n) fun i hi => by rw [firstN_get hi, h i hi]
theorem firstN_take {f : Nat → Int} {n k : Nat} (h : k ≤ n) : (firstN f n).take k = firstN f k :=
  is_firstN (by rw [List.length_take, firstN_length]; omega) fun i hi => by rw [List.getElem?_take_of_lt hi, firstN_get (by omega)]
theorem firstN_drop {f : Nat → Int} {n k : Nat} : (firstN f n).drop k = firstN (fun i => f (k + i)) (n - k) :=
  is_firstN (by rw [List.length_drop, firstN_length]) fun i hi => by rw [List.getElem?_drop, firstN_get (by omega)]
theorem firstN_append {f : Nat → Int} {n k : Nat} : firstN f (n + k) = firstN f n ++ firstN (fun i => f (n + i)) k :=
  (is_firstN (by rw [List.length_append, firstN_length, firstN_length]) fun i hi => by
    by_cases h : i < n
    · rw [List.getElem?_append_left (by rw [firstN_length]; exact h), firstN_get h]
    · rw [List.getElem?_append_right (by rw [firstN_length]; omega), firstN_length, firstN_get (by omega)]
      congr 2
      omega).symm
theorem firstN_map {f : Nat → Int} {n : Nat} (g : Int → Int) : (firstN f n).map g = firstN (fun i => g (f i)) n := by
  unfold firstN
  rw [List.map_map]
  rfl
theorem firstN_zip {f g : Nat → Int} {n : Nat} (h : Int → Int → Int) : List.zipWith h (firstN f n) (firstN g n) = firstN (fun i => h (f i) (g i)) n :=
  is_firstN (by rw [List.length_zipWith, firstN_length, firstN_length]; omega) fun i hi => by rw [List.getElem?_zipWith, firstN_get hi, firstN_get hi]
theorem firstN_self (xs : List Int) : firstN (fun i => xs.getD i 0) xs.length = xs :=
  (is_firstN rfl fun i hi => by rw [List.getD_eq_getElem?_getD, List.getElem?_eq_getElem hi]; rfl).symm
/-- the rounds, one after another -/
def laps (turn : List Int) (rise : Int) (n : Nat) : List Int := (List.range n).flatMap fun lap : Nat => turn.map fun x => x + rise * (lap : Int)
theorem laps_succ (turn : List Int) (rise : Int) (n : Nat) : laps turn rise (n + 1) = laps turn rise n ++ turn.map fun x => x + rise * (n : Int) := by
  unfold laps
  rw [List.range_succ, List.flatMap_append]
  simp
theorem laps_length (turn : List Int) (rise : Int) : ∀ n, (laps turn rise n).length = turn.length * n
  | 0 => rfl
  | n + 1 => by rw [laps_succ, List.length_append, laps_length turn rise n, List.length_map, Nat.mul_succ]
theorem laps_get {turn : List Int} {rise : Int} : ∀ {n i : Nat}, i < turn.length * n → (laps turn rise n)[i]? = some (cyc turn rise i)
  | 0, i, h => by omega
  | n + 1, i, h => by
    rw [laps_succ]
    by_cases hi : i < turn.length * n
    · rw [List.getElem?_append_left (by rw [laps_length]; exact hi), laps_get hi]
    · rw [Nat.mul_succ] at h
      rw [List.getElem?_append_right (by rw [laps_length]; omega), laps_length, List.getElem?_map, List.getElem?_eq_getElem (by omega)]
      have hlt : i - turn.length * n < turn.length := by omega
      have e : i = (i - turn.length * n) + turn.length * n := by omega
      have e2 := cyc_mul (rise := rise) (by omega : 0 < turn.length) (i - turn.length * n) n
      rw [← e, cyc_lt hlt] at e2
      rw [e2, List.getD_eq_getElem?_getD, List.getElem?_eq_getElem hlt]
      rfl
theorem tells_get {l : Lad} {i : Nat} (h : i < l.early.length) : l.early[i]? = some (tells l i) := by
  rw [tells_lt h, List.getD_eq_getElem?_getD, List.getElem?_eq_getElem h]
  rfl
theorem first_is {l : Lad} (ht : 0 < l.turn.length) (n : Nat) : (l.early ++ laps l.turn l.rise ((n - l.early.length) / l.turn.length + 1)).take n = firstN (tells l) n := by
  have hm : n - l.early.length < l.turn.length * ((n - l.early.length) / l.turn.length + 1) := Nat.lt_mul_div_succ _ ht
  refine is_firstN ?_ fun i hi => ?_
  · rw [List.length_take, List.length_append, laps_length]
    omega
  · rw [List.getElem?_take_of_lt hi]
    by_cases h : i < l.early.length
    · rw [List.getElem?_append_left h, tells_get h]
    · rw [List.getElem?_append_right (by omega), laps_get (by omega), tells_ge (by omega)]
end LM
namespace LD
open PySem PySem.Spec PyProof.Rows L2 LM
section
variable {K : PySem.W.Frag}
theorem ev_divN {δ : DE} {ta tb : TE} {a b : Nat} (ha : EvD ta δ (.int (a : Int))) (hb : EvD tb δ (.int (b : Int))) (h : 0 < b) (h' : b < 1073741824) : EvD (tOp rDiv ta tb) δ (.int ((a / b : Nat) : Int)) :=
  (ev_div ha hb (by omega) (by omega)).to (by rw [Int.natCast_ediv])
theorem ev_modN {δ : DE} {ta tb : TE} {a b : Nat} (ha : EvD ta δ (.int (a : Int))) (hb : EvD tb δ (.int (b : Int))) (h : 0 < b) : EvD (tOp rMod ta tb) δ (.int ((a % b : Nat) : Int)) :=
  (ev_mod ha hb (by omega)).to (by rw [Int.natCast_emod])
theorem ev_mulN {δ : DE} {ta tb : TE} {a b : Nat} (ha : EvD ta δ (.int (a : Int))) (hb : EvD tb δ (.int (b : Int))) (h : b < 18446744073709551616) : EvD (tOp rMul ta tb) δ (.int ((a * b : Nat) : Int)) :=
  (ev_mul ha hb (.inr ⟨by omega, by omega⟩)).to (by rw [Int.natCast_mul])
theorem ev_addN {δ : DE} {ta tb : TE} {a b : Nat} (ha : EvD ta δ (.int (a : Int))) (hb : EvD tb δ (.int (b : Int))) : EvD (tOp rAdd ta tb) δ (.int ((a + b : Nat) : Int)) :=
  (ev_add ha hb).to (by rw [Int.natCast_add])
theorem ev_subN {δ : DE} {ta tb : TE} {a b : Nat} (ha : EvD ta δ (.int (a : Int))) (hb : EvD tb δ (.int (b : Int))) (h : b ≤ a) : EvD (tOp rSub ta tb) δ (.int ((a - b : Nat) : Int)) :=
  (ev_sub ha hb).to (by congr 1; omega)
theorem ev_maxN {δ : DE} {ta tb : TE} {a b : Nat} (ha : EvD ta δ (.int (a : Int))) (hb : EvD tb δ (.int (b : Int))) : EvD (tCB rMax2 (tCons ta (tCons tb tNil))) δ (.int ((max a b : Nat) : Int)) :=
  (ev_max2 ha hb).to (by congr 1; omega)
theorem w_number_at (ds : List D) (r : D) (h : S_number_at ds r) : W (t_number_at K) (startD 7 ds) (fun _ => r = .none) no no (fun d => d = r) := by
  obtain ⟨l, n, rfl, ok, rfl⟩ := h
  have pos := ok.pos
  have h2 : l.turn.length ≤ 1000000 := ok.turn
  have r0 := ok.r0
  have r1 := ok.r1
  refine x_asg (ev_var rfl) (as_tup (as_cons as_name (as_cons as_name (as_cons as_name as_nil)))) ?_
  refine x_if (et_test (ev_lt (ev_var rfl) (ev_lenI (ev_var rfl)))) (fun e => ?_) fun e => ?_
  · have hn : n < l.early.length := by
      have := of_decide_eq_true e
      omega
    refine w_ret (ev_ixI (ev_var rfl) (ev_var rfl) hn) ?_
    rw [tells_lt hn]
  · have hn : l.early.length ≤ n := by
      have := of_decide_eq_false e
      omega
    refine x_asg (d := .tuple [.int (((n - l.early.length) / l.turn.length : Nat) : Int), .int (((n - l.early.length) % l.turn.length : Nat) : Int)])
      ((ev_divmod (ev_subN (ev_var rfl) (ev_lenI (ev_var rfl)) hn) (ev_lenI (ev_var rfl)) (by omega) (by omega)).to (by rw [Int.natCast_ediv, Int.natCast_emod])) (as_tup (as_cons as_name (as_cons as_name as_nil))) ?_
    refine w_ret (ev_add (ev_ixI (ev_var rfl) (ev_var rfl) (Nat.mod_lt _ pos)) (ev_mul (ev_var rfl) (ev_var rfl) (.inl ⟨by omega, by omega⟩))) ?_
    rw [tells_ge hn]
    rfl
theorem w_first_numbers (ds : List D) (r : D) (h : S_first_numbers ds r) : W (t_first_numbers K) (startD 9 ds) (fun _ => r = .none) no no (fun d => d = r) := by
  obtain ⟨l, n, rfl, ok, hn, rfl⟩ := h
  have pos := ok.pos
  have h1 : l.early.length ≤ 1000000 := ok.early
  have h2 : l.turn.length ≤ 1000000 := ok.turn
  have r0 := ok.r0
  have r1 := ok.r1
  have hle : l.turn.length * ((n - l.early.length) / l.turn.length + 1) ≤ 11000000 := by
    rw [Nat.mul_succ]
    have := Nat.mul_div_le (n - l.early.length) l.turn.length
    omega
  refine x_asg (ev_var rfl) (as_tup (as_cons as_name (as_cons as_name (as_cons as_name as_nil)))) ?_
  refine x_set (d := .int (((n - l.early.length) / l.turn.length + 1 : Nat) : Int)) (ev_addN (b := 1) (ev_divN ((ev_max2 ev_int (ev_sub (ev_var rfl) (ev_lenI (ev_var rfl)))).to (by congr 1; omega)) (ev_lenI (ev_var rfl)) pos (by omega)) ev_int) ?_
  have hz : ((List.range ((n - l.early.length) / l.turn.length + 1)).flatMap fun _ => l.turn).length = l.turn.length * ((n - l.early.length) / l.turn.length + 1) := by
    rw [← laps_length l.turn l.rise]
    unfold laps
    rw [List.length_flatMap, List.length_flatMap]
    congr 1
    exact List.map_congr_left fun a _ => (List.length_map _).symm
  refine x_set (d := iL (l.early ++ laps l.turn l.rise ((n - l.early.length) / l.turn.length + 1))) (ev_catI (ev_var rfl) ((ev_lc2 (List.range ((n - l.early.length) / l.turn.length + 1)) (fun i => PyData.int (i : Nat)) (fun _ => l.turn) PyData.int (fun i x => PyData.int (x + l.rise * (i : Int))) [7] [8]
    (fun i => _) (fun i x => _) (ei_rangeN (ev_var rfl) ?_) ?_ (fun j h => ?_) (fun j h => ?_) (fun i hi => as_name) (fun i hi => ei_listI (ev_var rfl)) (fun i hi x hx => as_name) fun i hi x hx => ev_add (ev_var rfl) (ev_mul (ev_var rfl) (ev_var rfl) (.inl ⟨by omega, by omega⟩))).to ?_) ?_) ?_
  · have : (n - l.early.length) / l.turn.length ≤ n - l.early.length := Nat.div_le_self _ _
    omega
  · rw [hz, sizeLine_is]
    omega
  · rw [List.mem_singleton.mp h]
    decide
  · rw [List.mem_singleton.mp h]
    decide
  · unfold laps iL
    rw [List.map_flatMap]
    congr 1
    congr 1
    funext i
    rw [List.map_map]
    rfl
  · rw [laps_length]
    omega
  · refine w_ret (ev_toI (ev_var rfl) (ev_var rfl)) ?_
    rw [first_is pos]
theorem w_comes_again (ds : List D) (r : D) (h : S_comes_again ds r) : W (t_comes_again K) (startD 7 ds) (fun _ => r = .none) no no (fun d => d = r) := by
  obtain ⟨t, k, n, rfl, h0, h1, h2, rfl⟩ := h
  have h2' : t.length ≤ 1000000 := h2
  have tp : 0 < t.length / n := Nat.div_pos h1 h0
  have tl : t.length / n ≤ t.length := Nat.div_le_self _ _
  refine x_set (ev_divN (ev_lenI (ev_var rfl)) (ev_var rfl) h0 (by omega)) ?_
  refine x_if (et_test (ev_neI (ev_mod (ev_var rfl) (ev_var rfl) (by omega)) ev_int)) (fun e => ?_) fun e => ?_
  · refine w_ret ev_bl ?_
    unfold comesAgain
    rw [Bool.not_eq_true'] at e
    rw [e]
    rfl
  · rw [Bool.not_eq_false'] at e
    refine x_set (d := iL (again t k n)) (ev_catI (ev_fromI (ev_var rfl) (ev_var rfl)) (ev_lcYI (t.take n) PyData.int (fun x => x + k) [5] (fun x => _) (ei_listI (ev_toI (ev_var rfl) (ev_var rfl))) ?_ (fun j hj => hj) (fun x hx => as_name) fun x hx => ev_add (ev_var rfl) (ev_var rfl)) ?_) ?_
    · rw [List.length_take, sizeLine_is]
      omega
    · rw [List.length_drop, List.length_map, List.length_take]
      omega
    · refine w_ret (ev_all (ev_zipB (fun a b => decide (a + k / ((t.length / n : Nat) : Int) = b)) (ev_var rfl) (ev_var rfl) ?_ fun a b => ev_eqI (ev_add (ev_var rfl) (ev_div (ev_var rfl) (ev_var rfl) (by omega) (by omega))) (ev_var rfl))) ?_
      · rw [sizeLine_is]
        omega
      · unfold comesAgain
        rw [e]
        rfl
theorem w_common_way (ds : List D) (r : D) (h : S_common_way ds r) : W (t_common_way K) (startD 2 ds) (fun _ => r = .none) no no (fun d => d = r) := by
  obtain ⟨l, k, rfl, h1, h2, rfl⟩ := h
  have t1 : l.turn.length ≤ 1000000 := h1.turn
  have t2 : k.turn.length ≤ 1000000 := h2.turn
  exact w_ret (ev_tup (ea_cons (ev_maxN (ev_lenI (ev_ixT (ev_var rfl) ev_int rfl)) (ev_lenI (ev_ixT (ev_var rfl) ev_int rfl))) (ea_cons (ev_call (ea_cons (ev_lenI (ev_ixT (ev_var rfl) ev_int rfl)) (ea_cons (ev_lenI (ev_ixT (ev_var rfl) ev_int rfl)) ea_nil)) ⟨l.turn.length, k.turn.length, rfl, h1.pos, h2.pos, by omega, by omega, rfl⟩) ea_nil))) rfl
theorem w_risen (ds : List D) (r : D) (h : S_risen ds r) : W (t_risen K) (startD 2 ds) (fun _ => r = .none) no no (fun d => d = r) := by
  obtain ⟨l, n, rfl, ok, rfl⟩ := h
  have t1 : l.turn.length ≤ 1000000 := ok.turn
  have r0 := ok.r0
  have r1 := ok.r1
  exact w_ret (ev_mul (ev_ixT (ev_var rfl) ev_int rfl) (ev_divN (ev_var rfl) (ev_lenI (ev_ixT (ev_var rfl) ev_int rfl)) ok.pos (by omega)) (.inl ⟨by omega, by omega⟩)) rfl
end
end LD
/-! W3: primes, the least way. -/
namespace LM
theorem prime_iff {p : Nat} : primeB p = true ↔ isPrime p := by
  unfold primeB isPrime
  rw [Bool.and_eq_true, decide_eq_true_iff, List.all_eq_true]
  refine and_congr_right fun h2 => ⟨fun h d hd => ?_, fun h d hd => ?_⟩
  · have hle : d ≤ p := Nat.le_of_dvd (by omega) hd
    have d0 : d ≠ 0 := fun z => by
      rw [z] at hd
      have := Nat.eq_zero_of_zero_dvd hd
      omega
    by_cases e : d = p
    · exact .inr e
    · have := h d (List.mem_range.mpr (by omega))
      rw [Bool.or_eq_true, decide_eq_true_iff, Bool.not_eq_true', decide_eq_false_iff_not] at this
      rcases this with z | z
      · exact .inl (by omega)
      · exact absurd hd z
  · have hlt := List.mem_range.mp hd
    rw [Bool.or_eq_true, decide_eq_true_iff, Bool.not_eq_true', decide_eq_false_iff_not]
    by_cases z : d ∣ p
    · rcases h d z with y | y
      · exact .inl (by omega)
      · omega
    · exact .inr z
theorem prime_dvd_mul {p q c : Nat} (hp : isPrime p) (hq : isPrime q) (hne : p ≠ q) : p ∣ q * c ↔ p ∣ c := by
  constructor
  · intro h
    have co : Nat.Coprime p q := by
      have g1 := Nat.gcd_dvd_left p q
      have g2 := Nat.gcd_dvd_right p q
      rcases hp.2 _ g1 with z | z
      · exact z
      · rw [z] at g2
        rcases hq.2 _ g2 with y | y
        · have := hp.1
          omega
        · exact absurd y hne
    exact co.dvd_of_dvd_mul_left h
  · exact fun h => Nat.dvd_trans h (Nat.dvd_mul_left c q)
/-- the primes of n under b -/
def under (n b : Nat) : List Int := ((List.range b).filter fun p => primeB p && decide (p ∣ n)).map fun p : Nat => (p : Int)
theorem under_succ (n b : Nat) : under n (b + 1) = under n b ++ if primeB b && decide (b ∣ n) then [(b : Int)] else [] := by
  unfold under
  rw [List.range_succ, List.filter_append, List.map_append]
  congr 1
  by_cases h : (primeB b && decide (b ∣ n)) = true
  · rw [if_pos h, List.filter_cons, if_pos h]
    rfl
  · rw [if_neg h, List.filter_cons, if_neg h]
    rfl
theorem under_more {n b : Nat} : ∀ k, (∀ p, b ≤ p → isPrime p → ¬ p ∣ n) → under n (b + k) = under n b
  | 0, _ => rfl
  | k + 1, h => by
    rw [← Nat.add_assoc, under_succ, under_more k h, if_neg, List.append_nil]
    intro z
    rw [Bool.and_eq_true, decide_eq_true_iff] at z
    exact h (b + k) (by omega) (prime_iff.mp z.1) z.2
theorem under_length (n b : Nat) : (under n b).length ≤ b := by
  unfold under
  rw [List.length_map]
  have := List.length_filter_le (fun p => primeB p && decide (p ∣ n)) (List.range b)
  rw [List.length_range] at this
  exact this
theorem under_is {n b : Nat} (h0 : 0 < n) (h : ∀ p, b ≤ p → isPrime p → ¬ p ∣ n) : under n b = primeParts n := by
  show under n b = under n (n + 1)
  rcases Nat.le_total b (n + 1) with z | z
  · have := under_more (n + 1 - b) h
    rw [show b + (n + 1 - b) = n + 1 by omega] at this
    exact this.symm
  · have := under_more (n := n) (b := n + 1) (b - (n + 1)) fun p hp _ hd => by
      have := Nat.le_of_dvd h0 hd
      omega
    rw [show n + 1 + (b - (n + 1)) = b by omega] at this
    exact this
/-- what is left of n when the primes under b are out -/
structure Left (n b x : Nat) : Prop where
  pos : 0 < x
  dvd : x ∣ n
  low : ∀ p, p < b → isPrime p → ¬ p ∣ x
  high : ∀ p, b ≤ p → isPrime p → (p ∣ x ↔ p ∣ n)
theorem Left.prime {n b x : Nat} (h : Left n b x) (hb : 2 ≤ b) (hd : b ∣ x) : isPrime b := by
  obtain ⟨p, hp, hpb⟩ := prime_factor b hb
  have hle : p ≤ b := Nat.le_of_dvd (by omega) hpb
  rcases Nat.lt_or_ge p b with z | z
  · exact absurd (Nat.dvd_trans hpb hd) (h.low p z hp)
  · rw [show b = p by omega]
    exact hp
end LM
namespace LD
open PySem PySem.Spec PyProof.Rows L2 LM
section
variable {K : PySem.W.Frag}
theorem w_prime_parts (ds : List D) (r : D) (h : S_prime_parts ds r) : W (t_prime_parts K) (startD 4 ds) (fun _ => r = .none) no no (fun d => d = r) := by
  obtain ⟨n, rfl, n0, hn, rfl⟩ := h
  have hn' : n ≤ 1000000 := hn
  refine x_mlist (Nat.le_of_ble_eq_true rfl) ?_
  refine wx_seq (M := fun δ a => δ = [some (.int (n : Int)), none, some (.int (n : Int)), some (.int 2)] ∧ a = []) (wm_par (ea_cons (ev_var rfl) (ea_cons ev_int ea_nil)) (by decide) (by decide) ⟨rfl, rfl⟩) ?_
  rintro δ a ⟨rfl, rfl⟩
  refine wx_seq (M := fun δ a => δ[1]? = some none ∧ a = (primeParts n).map .int ∧ δ.length = 4) (wm_while (fun m δ a => ∃ x b : Nat, δ = [some (.int (n : Int)), none, some (.int (x : Int)), some (.int (b : Int))] ∧ a = (under n b).map .int ∧ 2 ≤ b ∧ b ≤ n + 2 ∧ m = n + 2 - b ∧ Left n b x) (n + 2 - 2)
    ⟨n, 2, rfl, rfl, by omega, by omega, rfl, ⟨n0, Nat.dvd_refl n, fun p hp pp => by have := pp.1; omega, fun p _ _ => Iff.rfl⟩⟩ ?_) ?_
  · rintro m δ a ⟨x, b, rfl, rfl, b2, bn, rfl, L⟩
    refine ⟨_, et_test (ev_gt (ev_var rfl) ev_int), fun e => ?_, fun e => ?_⟩
    · have hx : 1 < x := by
        have := of_decide_eq_true e
        omega
      -- some prime is left
      have hbn : b ≤ n := by
        obtain ⟨p, hp, hpx⟩ := prime_factor x hx
        rcases Nat.lt_or_ge p b with z | z
        · exact absurd hpx (L.low p z hp)
        · have := Nat.le_of_dvd n0 (Nat.dvd_trans hpx L.dvd)
          omega
      have ul := under_length n b
      refine wm_seq (M := fun δ a => ∃ y : Nat, δ = [some (.int (n : Int)), none, some (.int (y : Int)), some (.int (b : Int))] ∧ a = (under n (b + 1)).map .int ∧ Left n (b + 1) y) ?_ ?_
      · refine wm_if (et_test (ev_eqI (ev_modN (ev_var rfl) (ev_var rfl) (by omega)) ev_int)) (fun e => ?_) fun e => ?_
        · have hd : b ∣ x := Nat.dvd_of_mod_eq_zero (by have := of_decide_eq_true e; omega)
          have pb := L.prime b2 hd
          refine wm_seq (M := fun δ a => δ = [some (.int (n : Int)), none, some (.int (x : Int)), some (.int (b : Int))] ∧ a = (under n (b + 1)).map .int) (wm_append (ev_var rfl) (by rw [List.length_map]; omega) ⟨rfl, ?_⟩) ?_
          · rw [under_succ, if_pos, List.map_append]
            · rfl
            · rw [Bool.and_eq_true, decide_eq_true_iff]
              exact ⟨prime_iff.mpr pb, Nat.dvd_trans hd L.dvd⟩
          · rintro δ a ⟨rfl, rfl⟩
            refine wm_while (fun m δ a => δ = [some (.int (n : Int)), none, some (.int (m : Int)), some (.int (b : Int))] ∧ a = (under n (b + 1)).map .int ∧ 0 < m ∧ m ∣ n ∧ (∀ p, p < b → isPrime p → ¬ p ∣ m) ∧ ∀ p, b < p → isPrime p → (p ∣ m ↔ p ∣ n)) x
              ⟨rfl, rfl, L.pos, L.dvd, L.low, fun p hp pp => L.high p (by omega) pp⟩ ?_
            rintro y δ a ⟨rfl, rfl, y0, yd, yl, yh⟩
            refine ⟨_, et_test (ev_eqI (ev_modN (ev_var rfl) (ev_var rfl) (by omega)) ev_int), fun e => ?_, fun e => ?_⟩
            · obtain ⟨c, hc⟩ : b ∣ y := Nat.dvd_of_mod_eq_zero (by have := of_decide_eq_true e; omega)
              have hyc : y / b = c := by
                rw [hc]
                exact Nat.mul_div_cancel_left _ (by omega)
              have c0 : 0 < c := by
                rcases Nat.eq_zero_or_pos c with z | z
                · rw [z] at hc; omega
                · exact z
              have hcy : c < y := by
                have : 2 * c ≤ b * c := Nat.mul_le_mul_right c b2
                omega
              refine wm_set (ev_divN (ev_var rfl) (ev_var rfl) (by omega) (by omega)) (by decide) ⟨y / b, by rw [hyc]; exact hcy, rfl, rfl, by rw [hyc]; exact c0, ?_, fun p hp pp => ?_, fun p hp pp => ?_⟩
              · rw [hyc]
                exact Nat.dvd_trans ⟨b, by rw [hc, Nat.mul_comm]⟩ yd
              · rw [hyc]
                exact fun z => yl p hp pp (by rw [hc]; exact Nat.dvd_trans z (Nat.dvd_mul_left c b))
              · rw [hyc, ← yh p hp pp, hc]
                exact (prime_dvd_mul pp pb (by omega)).symm
            · refine ⟨y, rfl, rfl, y0, yd, fun p hp pp hpy => ?_, fun p hp pp => yh p (by omega) pp⟩
              rcases Nat.lt_or_ge p b with z | z
              · exact yl p z pp hpy
              · have e2 := of_decide_eq_false e
                have : p = b := by omega
                rw [this] at hpy
                have := Nat.mod_eq_zero_of_dvd hpy
                omega
        · have hd : ¬ b ∣ x := fun z => by
            have := Nat.mod_eq_zero_of_dvd z
            have := of_decide_eq_false e
            omega
          refine wm_next ⟨x, rfl, ?_, L.pos, L.dvd, fun p hp pp hpx => ?_, fun p hp pp => L.high p (by omega) pp⟩
          · rw [under_succ, if_neg, List.append_nil]
            intro z
            rw [Bool.and_eq_true, decide_eq_true_iff] at z
            exact hd ((L.high b (Nat.le_refl b) (prime_iff.mp z.1)).mpr z.2)
          · rcases Nat.lt_or_ge p b with z | z
            · exact L.low p z pp hpx
            · have : p = b := by omega
              rw [this] at hpx
              exact hd hpx
      · rintro δ a ⟨y, rfl, rfl, L2⟩
        exact wm_aug rfl ev_int (by decide) ⟨n + 2 - (b + 1), by omega, y, b + 1, rfl, rfl, by omega, by omega, rfl, L2⟩
    · have hx : x = 1 := by
        have := of_decide_eq_false e
        have := L.pos
        omega
      refine ⟨rfl, ?_, rfl⟩
      rw [under_is n0 fun p hp pp hd => ?_]
      have := (L.high p hp pp).mpr hd
      rw [hx] at this
      have := Nat.le_of_dvd (by omega) this
      have := pp.1
      omega
  · rintro δ a ⟨h1, rfl, h4⟩
    refine wx_freeze (w_ret (ev_var ?_) rfl)
    rw [List.getElem?_set_self (by omega)]
theorem primes_mem {n p : Nat} : (p : Int) ∈ primeParts n → isPrime p ∧ p ∣ n := by
  intro h
  unfold primeParts at h
  obtain ⟨q, hq, e⟩ := List.mem_map.mp h
  have e' : q = p := by
    have : (q : Int) = (p : Int) := e
    omega
  subst e'
  have := (List.mem_filter.mp hq).2
  rw [Bool.and_eq_true, decide_eq_true_iff] at this
  exact ⟨prime_iff.mp this.1, this.2⟩
theorem mem_primes {n p : Nat} (h0 : 0 < n) (hp : isPrime p) (hd : p ∣ n) : (p : Int) ∈ primeParts n := by
  unfold primeParts
  refine List.mem_map.mpr ⟨p, List.mem_filter.mpr ⟨List.mem_range.mpr ?_, ?_⟩, rfl⟩
  · have := Nat.le_of_dvd h0 hd
    omega
  · rw [Bool.and_eq_true, decide_eq_true_iff]
    exact ⟨prime_iff.mpr hp, hd⟩
theorem w_least_length (ds : List D) (r : D) (h : S_least_length ds r) : W (t_least_length K) (startD 4 ds) (fun _ => r = .none) no no (fun d => d = r) := by
  obtain ⟨t, k, rfl, t0, ht, rfl⟩ := h
  have ht' : t.length ≤ 1000000 := ht
  refine x_set (ev_lenI (ev_var rfl)) ?_
  refine w_seq (M := fun δ => ∃ x, δ = [some (iL t), some (.int k), some (.int (leastLen t k : Nat)), x]) (w_for (ds := (primeParts t.length).map .int)
    (fun i δ => ∃ (L : Nat) (x : Option D), δ = [some (iL t), some (.int k), some (.int (L : Int)), x] ∧ 0 < L ∧ L ∣ t.length ∧ QP (cyc t k) L ∧ ∀ j p, j < i → (primeParts t.length)[j]? = some ((p : Nat) : Int) → p ∣ L → ¬ QP (cyc t k) (L / p))
    (ei_listI (ev_call (ea_cons (ev_var rfl) ea_nil) ⟨t.length, rfl, t0, ht, rfl⟩)) ⟨t.length, none, rfl, t0, Nat.dvd_refl _, qp_turn t0, fun j p hj => absurd hj (Nat.not_lt_zero j)⟩ ?_ ?_) ?_
  · rintro i δ d hd ⟨L, x, rfl, L0, Ld, Lq, Lp⟩
    rw [List.getElem?_map] at hd
    cases hqi : (primeParts t.length)[i]? with
    | none => rw [hqi] at hd; cases hd
    | some z =>
      rw [hqi] at hd
      have hz : d = .int z := (Option.some.inj hd).symm
      subst hz
      obtain ⟨q, hq, e2⟩ := List.mem_map.mp (show z ∈ primeParts t.length from List.mem_of_getElem? hqi)
      have e2' : (q : Int) = z := e2
      subst e2'
      obtain ⟨qp, qd⟩ := primes_mem (List.mem_of_getElem? hqi)
      have q2 := qp.1
      have qle : q ≤ t.length := Nat.le_of_dvd t0 qd
      refine ⟨_, _, as_name, ?_⟩
      refine w_while (fun m δ => δ = [some (iL t), some (.int k), some (.int (m : Int)), some (.int (q : Int))] ∧ 0 < m ∧ m ∣ t.length ∧ QP (cyc t k) m ∧ ∀ j p, j < i → (primeParts t.length)[j]? = some ((p : Nat) : Int) → p ∣ m → ¬ QP (cyc t k) (m / p)) L ⟨rfl, L0, Ld, Lq, Lp⟩ ?_
      rintro m δ ⟨rfl, m0, md, mq, mp⟩
      have mle : m ≤ t.length := Nat.le_of_dvd t0 md
      refine ⟨_, et_and (b := comesAgain t k (m / q)) (et_test (ev_eqI (ev_modN (ev_var rfl) (ev_var rfl) (by omega)) ev_int)) fun y => et_B (ev_call (ea_cons (ev_var rfl) (ea_cons (ev_var rfl) (ea_cons (ev_divN (ev_var rfl) (ev_var rfl) (by omega) (by omega)) ea_nil))) ⟨t, k, m / q, rfl, ?_, ?_, ht, rfl⟩), fun e => ?_, fun e => ?_⟩
      · have hd : q ∣ m := Nat.dvd_of_mod_eq_zero (by have := of_decide_eq_true y; omega)
        exact Nat.div_pos (Nat.le_of_dvd m0 hd) (by omega)
      · have := Nat.div_le_self m q
        omega
      · rw [Bool.and_eq_true] at e
        obtain ⟨c, hc⟩ : q ∣ m := Nat.dvd_of_mod_eq_zero (by have := of_decide_eq_true e.1; omega)
        have hmc : m / q = c := by
          rw [hc]
          exact Nat.mul_div_cancel_left _ (by omega)
        have c0 : 0 < c := by
          rcases Nat.eq_zero_or_pos c with z | z
          · rw [z] at hc; omega
          · exact z
        have cm : c ∣ m := ⟨q, by rw [hc, Nat.mul_comm]⟩
        have hlt : c < m := by
          have : 2 * c ≤ q * c := Nat.mul_le_mul_right c q2
          omega
        have e3 := e.2
        rw [hmc] at e3
        refine w_set (ev_divN (ev_var rfl) (ev_var rfl) (by omega) (by omega)) ⟨m / q, by rw [hmc]; exact hlt, rfl, by rw [hmc]; exact c0, by rw [hmc]; exact Nat.dvd_trans cm md, ?_, ?_⟩
        · rw [hmc]
          exact (comesAgain_iff t0 c0 (Nat.dvd_trans cm md)).mp e3
        · rw [hmc]
          intro j p hj hp hpc hq
          obtain ⟨b, hb⟩ := hpc
          have p2 := (primes_mem (List.mem_of_getElem? hp)).1.1
          refine mp j p hj hp ⟨q * b, by rw [hc, hb, Nat.mul_left_comm]⟩ ?_
          have e4 : c / p = b := by
            rw [hb]
            exact Nat.mul_div_cancel_left _ (by omega)
          have e5 : m / p = b * q := by
            rw [hc, hb, Nat.mul_left_comm, Nat.mul_div_cancel_left _ (by omega), Nat.mul_comm]
          rw [e5]
          rw [e4] at hq
          exact hq.mul q
      · refine ⟨m, some (.int (q : Int)), rfl, m0, md, mq, fun j p hj hp hpm => ?_⟩
        rcases Nat.lt_or_ge j i with z | z
        · exact mp j p z hp hpm
        · have hji : j = i := by omega
          subst hji
          have hpq : p = q := by
            have : (p : Int) = (q : Int) := Option.some.inj (hp.symm.trans hqi)
            omega
          subst hpq
          have hmod : decide (((m % p : Nat) : Int) = 0) = true := decide_eq_true (by rw [Nat.mod_eq_zero_of_dvd hpm]; rfl)
          rw [hmod, Bool.true_and] at e
          obtain ⟨c, hc⟩ := hpm
          have hmc : m / p = c := by
            rw [hc]
            exact Nat.mul_div_cancel_left _ (by omega)
          have c0 : 0 < c := by
            rcases Nat.eq_zero_or_pos c with z | z
            · rw [z] at hc; omega
            · exact z
          rw [hmc] at e ⊢
          intro hq
          rw [(comesAgain_iff t0 c0 (Nat.dvd_trans ⟨p, by rw [hc, Nat.mul_comm]⟩ md)).mpr hq] at e
          cases e
  · rintro δ ⟨L, x, rfl, L0, Ld, Lq, Lp⟩
    refine ⟨x, ?_⟩
    rw [greedy_is t0 L0 Ld Lq fun p hp hpL => ?_]
    obtain ⟨j, hj⟩ := List.getElem?_of_mem (mem_primes t0 hp (Nat.dvd_trans hpL Ld))
    refine Lp j p ?_ hj hpL
    rw [List.length_map]
    exact (List.getElem?_eq_some_iff.mp hj).1
  · rintro δ ⟨x, rfl⟩
    exact w_ret (ev_var rfl) rfl
end
end LD
/-! W4: the least way, rows, sets. -/
namespace LM
theorem begin_le (l : Lad) : beginOf l ≤ l.early.length := back_le _ _ _ _
theorem least_le {l : Lad} (h : 0 < l.turn.length) : leastLen l.turn l.rise ≤ l.turn.length := Nat.le_of_dvd h (leastLen_prop (rise := l.rise) h).2.1
theorem numbers_is {l : Lad} {L : Nat} (h : L ≤ l.turn.length) : l.early ++ l.turn.take L = firstN (tells l) (l.early.length + L) := by
  refine is_firstN (by rw [List.length_append, List.length_take]; omega) fun i hi => ?_
  by_cases z : i < l.early.length
  · rw [List.getElem?_append_left z, tells_get z]
  · rw [List.getElem?_append_right (by omega), List.getElem?_take_of_lt (by omega), tells_ge (by omega), cyc_lt (by omega), List.getD_eq_getElem?_getD, List.getElem?_eq_getElem (by omega)]
    rfl
theorem leastWay_is (l : Lad) : leastWay l = ⟨firstN (tells l) (beginOf l), firstN (fun i => tells l (beginOf l + i)) (leastLen l.turn l.rise), gainOf l⟩ := rfl
theorem fit_least {l : Lad} {e t : Nat} (h : LadFit l e t) : LadFit (leastWay l) e t := by
  have p := leastLen_prop (rise := l.rise) h.pos
  have hle := least_le h.pos
  have hg : (leastWay l).rise = gainOf l := rfl
  have e1 : ((l.turn.length / leastLen l.turn l.rise : Nat) : Int) * gainOf l = l.rise := qp_gain h.pos p.2.1 (gain_is h.pos)
  have tp : 0 < l.turn.length / leastLen l.turn l.rise := Nat.div_pos hle p.1
  have r0 := h.r0
  have r1 := h.r1
  have g0 : 0 ≤ gainOf l := by
    by_cases z : gainOf l < 0
    · have := Int.mul_neg_of_pos_of_neg (show (0 : Int) < ((l.turn.length / leastLen l.turn l.rise : Nat) : Int) by omega) z
      omega
    · omega
  refine ⟨by rw [leastWay_turn]; exact p.1, by rw [leastWay_early]; exact Nat.le_trans (begin_le l) h.early, by rw [leastWay_turn]; exact Nat.le_trans hle h.turn, by rw [hg]; exact g0, ?_⟩
  rw [hg]
  have : 1 * gainOf l ≤ ((l.turn.length / leastLen l.turn l.rise : Nat) : Int) * gainOf l := Int.mul_le_mul_of_nonneg_right (by omega) g0
  omega
end LM
namespace LD
open PySem PySem.Spec PyProof.Rows L2 LM
section
variable {K : PySem.W.Frag}
theorem w_least_way (ds : List D) (r : D) (h : S_least_way ds r) : W (t_least_way K) (startD 8 ds) (fun _ => r = .none) no no (fun d => d = r) := by
  obtain ⟨l, rfl, ok, rfl⟩ := h
  have pos := ok.pos
  have h1 : l.early.length ≤ 1000000 := ok.early
  have h2 : l.turn.length ≤ 1000000 := ok.turn
  have hle := least_le pos
  have hni := numbers_is hle
  have hL := (leastLen_prop (rise := l.rise) pos).1
  have hgain : gainOf l = l.rise * (leastLen l.turn l.rise : Int) / (l.turn.length : Int) := rfl
  have hbeg : beginOf l = back (tells l) (leastLen l.turn l.rise) (gainOf l) l.early.length := rfl
  have hble := begin_le l
  have hres := leastWay_is l
  generalize hLL : leastLen l.turn l.rise = L at hle hni hL hgain hbeg hres
  generalize hBB : beginOf l = b at hbeg hble hres
  rw [hres]
  refine x_asg (ev_var rfl) (as_tup (as_cons as_name (as_cons as_name (as_cons as_name as_nil)))) ?_
  refine x_set (d := .int (L : Int)) (ev_call (ea_cons (ev_var rfl) (ea_cons (ev_var rfl) ea_nil)) ⟨l.turn, l.rise, rfl, pos, ok.turn, by rw [hLL]⟩) ?_
  refine x_set (d := .int (gainOf l)) ((ev_div (ev_mul (ev_var rfl) (ev_var rfl) (.inr ⟨by omega, by omega⟩)) (ev_lenI (ev_var rfl)) (by omega) (by omega)).to (by rw [hgain])) ?_
  generalize gainOf l = g at hbeg hres hgain
  refine x_par (d1 := iL (firstN (tells l) (l.early.length + L))) (d2 := .int (l.early.length : Nat)) (ea_cons ((ev_catI (ev_var rfl) (ev_toI (ev_var rfl) (ev_var rfl)) (by rw [List.length_take]; omega)).to (by rw [hni])) (ea_cons (ev_lenI (ev_var rfl)) ea_nil)) ?_
  refine w_seq (M := fun δ => δ = [some (ladD l), some (iL l.early), some (iL l.turn), some (.int l.rise), some (.int (L : Int)), some (.int g), some (iL (firstN (tells l) (l.early.length + L))), some (.int (b : Int))])
    (w_while (fun m δ => δ = [some (ladD l), some (iL l.early), some (iL l.turn), some (.int l.rise), some (.int (L : Int)), some (.int g), some (iL (firstN (tells l) (l.early.length + L))), some (.int (m : Int))] ∧ m ≤ l.early.length ∧ back (tells l) L g m = b) l.early.length ⟨rfl, Nat.le_refl _, hbeg.symm⟩ ?_) ?_
  · rintro m δ ⟨rfl, hm, hb⟩
    cases m with
    | zero =>
      refine ⟨_, et_and (b := true) (et_test (ev_gt (ev_var rfl) ev_int)) fun y => absurd (of_decide_eq_true y) (by decide), fun e => ?_, fun e => ?_⟩
      · rw [Bool.and_true] at e
        exact absurd (of_decide_eq_true e) (by decide)
      · have hb' : 0 = b := hb
        rw [← hb']
    | succ k =>
      refine ⟨_, et_and (et_test (ev_gt (ev_var rfl) ev_int)) fun y => et_test (ev_eqI (ev_add (ev_ixI (k := k) (ev_var rfl) (ev_nat (ev_sub (ev_var rfl) ev_int) (by omega)) (by rw [firstN_length]; omega)) (ev_var rfl)) (ev_ixI (k := k + L) (ev_var rfl) (ev_nat (ev_add (ev_sub (ev_var rfl) ev_int) (ev_var rfl)) (by omega)) (by rw [firstN_length]; omega))), fun e => ?_, fun e => ?_⟩
      · rw [Bool.and_eq_true, firstN_getD (by omega), firstN_getD (by omega)] at e
        have e2 := of_decide_eq_true e.2
        refine w_aug rfl ev_int ⟨k, Nat.lt_succ_self k, ?_, by omega, ?_⟩
        · show _ = _
          rw [show ((k : Nat) : Int) = ((k + 1 : Nat) : Int) - 1 by omega]
          rfl
        · unfold back at hb
          rw [if_pos e2] at hb
          exact hb
      · have hd : decide ((0 : Int) < ((k + 1 : Nat) : Int)) = true := decide_eq_true (by omega)
        rw [hd, Bool.true_and, firstN_getD (by omega), firstN_getD (by omega)] at e
        have e2 := of_decide_eq_false e
        unfold back at hb
        rw [if_neg e2] at hb
        rw [hb]
  · rintro δ rfl
    refine w_ret (ev_tup (ea_cons (ev_toI (ev_var rfl) (ev_var rfl)) (ea_cons (ev_midI (ev_var rfl) (ev_var rfl) (ev_addN (ev_var rfl) (ev_var rfl)) (by rw [firstN_length]; omega)) (ea_cons (ev_var rfl) ea_nil)))) ?_
    unfold ladD
    dsimp only
    rw [firstN_take (by omega), firstN_drop, firstN_take (by omega), show b + L - b = L by omega]
theorem w_least_row (ds : List D) (r : D) (h : S_least_row ds r) : W (t_least_row K) (startD 3 ds) (fun _ => r = .none) no no (fun d => d = r) := by
  obtain ⟨p, rfl, ok, rfl⟩ := h
  refine x_asg (ev_var rfl) (as_tup (as_cons as_name (as_cons as_name as_nil))) ?_
  refine w_ret (ev_slT (ev_call (ea_cons (ev_tup (ea_cons (ev_var rfl) (ea_cons (ev_var rfl) (ea_cons ev_int ea_nil)))) ea_nil) ⟨rowLad p, rfl, ok, rfl⟩) eo_none (eo_some ev_int) ?_) ?_
  · show ¬ (_ ∧ HT.sIx 3 3 (some 2) = 3)
    exact fun z => absurd z.2 (by decide)
  · rfl
theorem w_first_of_row (ds : List D) (r : D) (h : S_first_of_row ds r) : W (t_first_of_row K) (startD 2 ds) (fun _ => r = .none) no no (fun d => d = r) := by
  obtain ⟨p, n, rfl, ok, hn, rfl⟩ := h
  exact w_ret (ev_call (ea_cons (ev_tup (ea_cons (ev_ixT (ev_var rfl) ev_int rfl) (ea_cons (ev_ixT (ev_var rfl) ev_int rfl) (ea_cons ev_int ea_nil)))) (ea_cons (ev_var rfl) ea_nil)) ⟨rowLad p, n, rfl, ok, hn, rfl⟩) rfl
theorem asc_nodup {xs : List Int} {n : Nat} (h : Asc xs n) : xs.Nodup := h.1.imp fun h => by omega
theorem w_set_row (ds : List D) (r : D) (h : S_set_row ds r) : W (t_set_row K) (startD 9 ds) (fun _ => r = .none) no no (fun d => d = r) := by
  obtain ⟨s, rfl, ok, rfl⟩ := h
  have h1 : s.first ≤ 1000 := ok.first
  have h2 : s.len ≤ 1000000 := ok.len
  have l1 := asc_length ok.ok.early
  have l2 := asc_length ok.ok.found
  have e1 : (List.range s.first).map (fun i : Nat => if decide ((i : Int) ∈ s.early) then (1 : Int) else 0) = (setRow s).1 := by
    refine List.map_congr_left fun i hi => ?_
    have := List.mem_range.mp hi
    have hb : bit s i = if (i : Int) ∈ s.early then 1 else 0 := by
      unfold bit
      rw [if_pos this]
    rw [hb]
    by_cases z : (i : Int) ∈ s.early
    · rw [if_pos z, if_pos (decide_eq_true z)]
    · rw [if_neg z, if_neg (by rw [decide_eq_false z]; exact Bool.false_ne_true)]
  have e2 : (List.range s.len).map (fun i : Nat => if decide ((i : Int) ∈ s.found) then (1 : Int) else 0) = (setRow s).2 := by
    refine List.map_congr_left fun i hi => ?_
    have := List.mem_range.mp hi
    have hb : bit s (s.first + i) = if (i : Int) ∈ s.found then 1 else 0 := by
      unfold bit
      rw [if_neg (by omega), show s.first + i - s.first = i by omega, Nat.mod_eq_of_lt this]
    rw [hb]
    by_cases z : (i : Int) ∈ s.found
    · rw [if_pos z, if_pos (decide_eq_true z)]
    · rw [if_neg z, if_neg (by rw [decide_eq_false z]; exact Bool.false_ne_true)]
  refine x_asg (ev_var rfl) (as_tup (as_cons as_name (as_cons as_name (as_cons as_name (as_cons as_name as_nil))))) ?_
  refine x_asg (ev_tup (ea_cons (ev_dc s.early (asc_nodup ok.ok.early) (ei_listI (ev_var rfl)) (by rw [sizeLine_is]; omega) (List.mem_singleton.mpr rfl) (Nat.le_of_ble_eq_true rfl)) (ea_cons (ev_dc s.found (asc_nodup ok.ok.found) (ei_listI (ev_var rfl)) (by rw [sizeLine_is]; omega) (List.mem_singleton.mpr rfl) (Nat.le_of_ble_eq_true rfl)) ea_nil))) (as_tup (as_cons as_name (as_cons as_name as_nil))) ?_
  refine w_ret (ev_tup (ea_cons (ev_lcYI (List.range s.first) (fun i : Nat => PyData.int (i : Nat)) (fun i : Nat => if decide ((i : Int) ∈ s.early) then (1 : Int) else 0) [7] (fun i => _) (ei_rangeN (ev_var rfl) (by omega)) (by rw [List.length_range, sizeLine_is]; omega) (fun j hj => hj) (fun i hi => as_name) fun i hi => ev_intB (ev_dIn (ev_var rfl) (ev_var rfl)))
    (ea_cons (ev_lcYI (List.range s.len) (fun i : Nat => PyData.int (i : Nat)) (fun i : Nat => if decide ((i : Int) ∈ s.found) then (1 : Int) else 0) [8] (fun i => _) (ei_rangeN (ev_var rfl) (by omega)) (by rw [List.length_range, sizeLine_is]; omega) (fun j hj => hj) (fun i hi => as_name) fun i hi => ev_intB (ev_dIn (ev_var rfl) (ev_var rfl))) ea_nil))) ?_
  rw [e1, e2]
  rfl
theorem w_set_from (ds : List D) (r : D) (h : S_set_from ds r) : W (t_set_from K) (startD 7 ds) (fun _ => r = .none) no no (fun d => d = r) := by
  obtain ⟨p, rfl, ok, rfl⟩ := h
  have fit := fit_least ok
  have h1 : (leastWay (rowLad p)).early.length ≤ 1000000 := fit.early
  have h2 : (leastWay (rowLad p)).turn.length ≤ 1000000 := fit.turn
  have hs : setFrom p = ⟨ones (leastWay (rowLad p)).early, (leastWay (rowLad p)).early.length, (leastWay (rowLad p)).turn.length, ones (leastWay (rowLad p)).turn⟩ := rfl
  rw [hs]
  refine x_asg (ev_call (ea_cons (ev_var rfl) ea_nil) ⟨p, rfl, ok, rfl⟩) (as_tup (as_cons as_name (as_cons as_name as_nil))) ?_
  generalize (leastWay (rowLad p)).early = a at *
  generalize (leastWay (rowLad p)).turn = b at *
  refine x_set (d := iL (ones a)) (ev_lcI (List.range a.length) (fun i : Nat => PyData.tuple [.int (i : Nat), .int (a.getD i 0)]) (fun i => decide (a.getD i 0 = 1)) (fun i : Nat => (i : Int)) _ (fun i => _) (ei_enumI (ev_var rfl)) (by rw [List.length_range, sizeLine_is]; omega) ?_ (fun i hi => as_tup (as_cons as_name (as_cons as_name as_nil)))
    (fun i hi => et_test (ev_eqI (ev_var rfl) ev_int)) fun i hi _ => ev_var rfl) ?_
  · exact fun j hj => hj
  refine w_ret (ev_tup (ea_cons (ev_var rfl) (ea_cons (ev_lenI (ev_var rfl)) (ea_cons (ev_lenI (ev_var rfl)) (ea_cons (ev_lcI (List.range b.length) (fun i : Nat => PyData.tuple [.int (i : Nat), .int (b.getD i 0)]) (fun i => decide (b.getD i 0 = 1)) (fun i : Nat => (i : Int)) _ (fun i => _) (ei_enumI (ev_var rfl)) (by rw [List.length_range, sizeLine_is]; omega) ?_ (fun i hi => as_tup (as_cons as_name (as_cons as_name as_nil)))
    (fun i hi => et_test (ev_eqI (ev_var rfl) ev_int)) fun i hi _ => ev_var rfl) ea_nil))))) rfl
  · exact fun j hj => hj
theorem w_set_of_days {w : World} (ds : List D) (r : D) (h : S_set_of_days ds r) : W (t_set_of_days K w) (startD 2 ds) (fun _ => r = .none) no no (fun d => d = r) := by
  obtain ⟨ns, rfl, hp, hl, h0, rfl⟩ := h
  refine x_set (ev_sortedSet (ev_var rfl) hl hp fun k => Iff.rfl) ?_
  refine w_ret (ev_tup (ea_cons (ev_var rfl) (ea_cons (ev_if (d := .int (((if ns = [] then 0 else (ns.getD (ns.length - 1) 0 + 1).toNat) : Nat) : Int)) (et_test (ev_notNil (ev_var rfl))) (fun e => ?_) fun e => ?_) (ea_cons ev_int (ea_cons (ev_lst ea_nil (Nat.zero_le _)) ea_nil))))) rfl
  · rw [Bool.not_eq_true', decide_eq_false_iff_not] at e
    have hpos : 0 < ns.length := List.length_pos_iff.mpr e
    rw [if_neg e]
    refine (ev_add (ev_ixL (d := .int (ns.getD (ns.length - 1) 0)) (ev_var rfl) (ev_neg ev_int) ?_) ev_int).to ?_
    · unfold atI ixN
      rw [List.length_map, if_neg (by omega), if_pos (by omega)]
      show (ns.map PyData.int)[(-1 + (ns.length : Int)).toNat]? = _
      rw [show (-1 + (ns.length : Int)).toNat = ns.length - 1 by omega, List.getElem?_map, getD_of (by omega)]
      rfl
    · have : 0 ≤ ns.getD (ns.length - 1) 0 := h0 _ (by
        rw [List.getD_eq_getElem?_getD, List.getElem?_eq_getElem (by omega)]
        exact List.getElem_mem _)
      congr 1
      omega
  · rw [Bool.not_eq_false', decide_eq_true_iff] at e
    rw [if_pos e]
    exact ev_int
end
end LD
/-! W5: next days, counts, joined and added ladders. -/
namespace LM
theorem bit_01 (s : DSet) (n : Nat) : bit s n = 0 ∨ bit s n = 1 := by
  unfold bit
  split <;> split <;> simp
theorem firstN_succ (f : Nat → Int) (n : Nat) : firstN f (n + 1) = firstN f n ++ [f n] := by
  unfold firstN
  rw [List.range_succ, List.map_append]
  rfl
theorem sum_01 {f : Nat → Int} (h : ∀ i, f i = 0 ∨ f i = 1) : ∀ n, 0 ≤ (firstN f n).sum ∧ (firstN f n).sum ≤ n
  | 0 => by simp [firstN]
  | n + 1 => by
    have ih := sum_01 h n
    have := h n
    rw [firstN_succ, List.sum_append]
    simp only [List.sum_cons, List.sum_nil]
    omega
theorem cnt_sum (s : DSet) (a : Nat) : ∀ n, cnt s (a + n) = cnt s a + (firstN (fun i => bit s (a + i)) n).sum
  | 0 => by simp [firstN]
  | n + 1 => by
    have ih := cnt_sum s a n
    rw [firstN_succ, List.sum_append, ← Nat.add_assoc]
    show cnt s (a + n) + bit s (a + n) = _
    simp only [List.sum_cons, List.sum_nil]
    omega
theorem cntLad_fit {s : DSet} {e t : Nat} (h : SetFit s e t) (ht : t ≤ 1000000) : LadFit (cntLad s) e t := by
  have := sum_01 (f := fun i => bit s (s.first + i)) (fun i => bit_01 s _) s.len
  have h2 := h.len
  refine ⟨by rw [show (cntLad s).turn.length = s.len from firstN_length _ _]; exact h.ok.pos, by rw [show (cntLad s).early.length = s.first from firstN_length _ _]; exact h.first, by rw [show (cntLad s).turn.length = s.len from firstN_length _ _]; exact h.len, this.1, ?_⟩
  show (firstN (fun i => bit s (s.first + i)) s.len).sum < _
  omega
theorem shift_fit {d : Nat} {l : Lad} {e t : Nat} (h : LadFit l e t) : LadFit (shiftLad d l) e t := by
  refine ⟨by rw [show (shiftLad d l).turn.length = l.turn.length from firstN_length _ _]; exact h.pos, by rw [show (shiftLad d l).early.length = l.early.length - d from firstN_length _ _]; have := h.early; omega, by rw [show (shiftLad d l).turn.length = l.turn.length from firstN_length _ _]; exact h.turn, h.r0, h.r1⟩
theorem add_turn (l k : Lad) : (addLad l k).turn.length = Nat.lcm l.turn.length k.turn.length := firstN_length _ _
theorem add_early (l k : Lad) : (addLad l k).early.length = max l.early.length k.early.length := firstN_length _ _
theorem add_fit {l k : Lad} {e t a b : Nat} (h1 : LadFit l e a) (h2 : LadFit k e b) (h3 : Nat.lcm l.turn.length k.turn.length ≤ t) (hr : (addLad l k).rise < 1099511627776) : LadFit (addLad l k) e t := by
  refine ⟨by rw [add_turn]; exact Nat.lcm_pos h1.pos h2.pos, by rw [add_early]; have := h1.early; have := h2.early; omega, by rw [add_turn]; exact h3, ?_, hr⟩
  show 0 ≤ l.rise * _ + k.rise * _
  have q1 := Int.mul_nonneg h1.r0 (Int.natCast_nonneg (Nat.lcm l.turn.length k.turn.length / l.turn.length))
  have q2 := Int.mul_nonneg h2.r0 (Int.natCast_nonneg (Nat.lcm l.turn.length k.turn.length / k.turn.length))
  omega
/-- over a round of n times its own -/
theorem tells_round {l : Lad} (h : 0 < l.turn.length) {n : Nat} (hn : l.early.length ≤ n) : ∀ k : Nat, tells l (n + l.turn.length * k) = tells l n + l.rise * (k : Int)
  | 0 => by simp
  | k + 1 => by
    rw [Nat.mul_succ, ← Nat.add_assoc, tells_add h (by omega), tells_round h hn k, Int.natCast_succ, Int.mul_add, Int.mul_one]
    omega
theorem tells_turn {l : Lad} (h : 0 < l.turn.length) {n L : Nat} (hn : l.early.length ≤ n) (hd : l.turn.length ∣ L) : tells l (n + L) = tells l n + l.rise * ((L / l.turn.length : Nat) : Int) := by
  obtain ⟨k, rfl⟩ := hd
  rw [tells_round h hn, Nat.mul_div_cancel_left _ h]
/-- what never tells more does not rise faster -/
theorem rise_le {l k : Lad} (hl : 0 < l.turn.length) (hk : 0 < k.turn.length) (h : ∀ n, tells k n ≤ tells l n) :
    k.rise * ((Nat.lcm l.turn.length k.turn.length / k.turn.length : Nat) : Int) ≤ l.rise * ((Nat.lcm l.turn.length k.turn.length / l.turn.length : Nat) : Int) := by
  have d1 := Nat.dvd_lcm_left l.turn.length k.turn.length
  have d2 := Nat.dvd_lcm_right l.turn.length k.turn.length
  generalize Nat.lcm l.turn.length k.turn.length = L at d1 d2
  have s1 := fun n (hn : l.early.length ≤ n) => tells_turn hl hn d1
  have s2 := fun n (hn : k.early.length ≤ n) => tells_turn hk hn d2
  generalize l.rise * ((L / l.turn.length : Nat) : Int) = g1 at s1
  generalize k.rise * ((L / k.turn.length : Nat) : Int) = g2 at s2
  have it : ∀ j : Nat, tells l (max l.early.length k.early.length + L * j) - tells k (max l.early.length k.early.length + L * j) = tells l (max l.early.length k.early.length) - tells k (max l.early.length k.early.length) + (g1 - g2) * (j : Int) := by
    intro j
    induction j with
    | zero => simp
    | succ j ih =>
      have a1 := s1 (max l.early.length k.early.length + L * j) (by omega)
      have a2 := s2 (max l.early.length k.early.length + L * j) (by omega)
      rw [Nat.mul_succ, ← Nat.add_assoc, a1, a2, Int.natCast_succ, Int.mul_add, Int.mul_one]
      omega
  by_cases z : g2 ≤ g1
  · exact z
  · exfalso
    have h1 := it ((tells l (max l.early.length k.early.length) - tells k (max l.early.length k.early.length)).toNat + 1)
    have h2 := h (max l.early.length k.early.length + L * ((tells l (max l.early.length k.early.length) - tells k (max l.early.length k.early.length)).toNat + 1))
    have h3 : (g1 - g2) * (((tells l (max l.early.length k.early.length) - tells k (max l.early.length k.early.length)).toNat + 1 : Nat) : Int) ≤ (-1) * (((tells l (max l.early.length k.early.length) - tells k (max l.early.length k.early.length)).toNat + 1 : Nat) : Int) := Int.mul_le_mul_of_nonneg_right (by omega) (by omega)
    omega
end LM
namespace LD
open PySem PySem.Spec PyProof.Rows L2 LM
section
variable {K : PySem.W.Frag}
theorem w_next_of (ds : List D) (r : D) (h : S_next_of ds r) : W (t_next_of K) (startD 11 ds) (fun _ => r = .none) no no (fun d => d = r) := by
  obtain ⟨s, rfl, ok, rfl⟩ := h
  have h1 : s.first ≤ 1000 := ok.first
  have h2 : s.len ≤ 1000000 := ok.len
  have pos := ok.ok.pos
  have l1 := asc_length ok.ok.early
  have l2 := asc_length ok.ok.found
  have fe : s.early.filter (fun x => decide (0 ≤ x)) = s.early := List.filter_eq_self.mpr fun x hx => decide_eq_true (ok.ok.early.2 x hx).1
  have ff : s.found.filter (fun x => decide (0 ≤ x)) = s.found := List.filter_eq_self.mpr fun x hx => decide_eq_true (ok.ok.found.2 x hx).1
  refine x_asg (ev_var rfl) (as_tup (as_cons as_name (as_cons as_name (as_cons as_name (as_cons as_name as_nil))))) ?_
  refine x_set (d := iL s.early) ((ev_lcI s.early PyData.int (fun x => decide (0 ≤ x)) (fun x => x) [7] (fun x => _) (ei_listI (ev_var rfl)) (by rw [sizeLine_is]; omega) (fun j hj => hj) (fun x hx => as_name) (fun x hx => et_test (ev_ge (ev_var rfl) (ev_var rfl))) fun x hx _ => ev_var rfl).to (by rw [List.map_id', fe])) ?_
  refine x_if (et_or (et_test (ev_notNil (ev_var rfl))) fun _ => et_test (ev_isNil (ev_var rfl))) (fun e => ?_) fun e => ?_
  · refine w_ret (ev_if (d := optD (firstDay s)) (et_test (ev_notNil (ev_var rfl))) (fun e2 => ?_) fun e2 => ?_) rfl
    · rw [Bool.not_eq_true', decide_eq_false_iff_not] at e2
      have hp : 0 < s.early.length := List.length_pos_iff.mpr e2
      refine (ev_ixI (k := 0) (ev_var rfl) ev_int hp).to ?_
      unfold firstDay
      cases hq : s.early with
      | nil => exact absurd hq e2
      | cons x xs =>
        have := (ok.ok.early.2 x (by rw [hq]; exact List.mem_cons_self)).1
        show PyData.int x = PyData.int ((x.toNat : Nat) : Int)
        congr 1
        omega
    · rw [Bool.not_eq_false', decide_eq_true_iff] at e2
      rw [e2] at e
      have e3 : s.found = [] := by simpa using e
      refine ev_non.to ?_
      unfold firstDay
      rw [e2, e3]
      rfl
  · rw [Bool.or_eq_false_iff, Bool.not_eq_false', decide_eq_true_iff, decide_eq_false_iff_not] at e
    have hp : 0 < s.found.length := List.length_pos_iff.mpr e.2
    refine x_asg (d := .tuple [.int ((0 : Nat) : Int), .int ((0 : Nat) : Int)]) ((ev_divmod (i := ((0 : Nat) : Int)) ((ev_sub (ev_max2 (ev_var rfl) (ev_var rfl)) (ev_var rfl)).to (by congr 1; omega)) (ev_var rfl) (by omega) (by omega)).to (by simp)) (as_tup (as_cons as_name (as_cons as_name as_nil))) ?_
    refine x_set (d := iL s.found) ((ev_lcI s.found PyData.int (fun x => decide (0 ≤ x)) (fun x => x) [7] (fun x => _) (ei_listI (ev_var rfl)) (by rw [sizeLine_is]; omega) (fun j hj => hj) (fun x hx => as_name) (fun x hx => et_test (ev_ge (ev_var rfl) (ev_var rfl))) fun x hx _ => ev_var rfl).to (by rw [List.map_id', ff])) ?_
    refine x_if (et_test (ev_notNil (ev_var rfl))) (fun e2 => ?_) fun e2 => ?_
    · refine w_ret (ev_add (ev_add (ev_var rfl) (ev_mul (ev_var rfl) (ev_var rfl) (.inr ⟨by omega, by omega⟩))) (ev_ixI (k := 0) (ev_var rfl) ev_int hp)) ?_
      unfold firstDay
      rw [e.1]
      cases hq : s.found with
      | nil => exact absurd hq e.2
      | cons x xs =>
        have := (ok.ok.found.2 x (by rw [hq]; exact List.mem_cons_self)).1
        show PyData.int ((s.first : Int) + (s.len : Int) * ((0 : Nat) : Int) + x) = PyData.int ((s.first + x.toNat : Nat) : Int)
        congr 1
        simp only [Int.natCast_zero, Int.mul_zero]
        omega
    · rw [Bool.not_eq_false', decide_eq_true_iff] at e2
      exact absurd e2 e.2
theorem w_counts_of (ds : List D) (r : D) (h : S_counts_of ds r) : W (t_counts_of K) (startD 6 ds) (fun _ => r = .none) no no (fun d => d = r) := by
  obtain ⟨s, rfl, ok, rfl⟩ := h
  have h1 : s.first ≤ 1000 := ok.first
  have h2 : s.len ≤ 1000000 := ok.len
  have hrow : (setRow s).1 ++ (setRow s).2 = firstN (bit s) (s.first + s.len) := firstN_append.symm
  have l1 : (setRow s).1.length = s.first := firstN_length _ _
  have l2 : (setRow s).2.length = s.len := firstN_length _ _
  refine x_asg (ev_call (ea_cons (ev_var rfl) ea_nil) ⟨s, rfl, ok, rfl⟩) (as_tup (as_cons as_name (as_cons as_name as_nil))) ?_
  refine x_mlist (Nat.le_of_ble_eq_true rfl) ?_
  refine wx_seq (M := fun δ a => δ = [some (setD s), some (iL (setRow s).1), some (iL (setRow s).2), none, some (.int 0), none] ∧ a = []) (wm_set ev_int (by decide) ⟨rfl, rfl⟩) ?_
  rintro δ a ⟨rfl, rfl⟩
  refine wx_seq (M := fun δ a => (∃ x y, δ = [some (setD s), some (iL (setRow s).1), some (iL (setRow s).2), none, x, y]) ∧ a = (firstN (cnt s) (s.first + s.len)).map .int) (wm_for (ds := ((setRow s).1 ++ (setRow s).2).map .int)
    (fun k δ a => ∃ y, δ = [some (setD s), some (iL (setRow s).1), some (iL (setRow s).2), none, some (.int (cnt s k)), y] ∧ a = (firstN (cnt s) k).map .int)
    (ei_listI (ev_catI (ev_var rfl) (ev_var rfl) (by rw [l1, l2]; omega))) ⟨none, rfl, rfl⟩ ?_ ?_) ?_
  · rintro k δ a d hd ⟨y, rfl, rfl⟩
    rw [hrow, List.getElem?_map] at hd
    have hk : k < s.first + s.len := by
      rcases Nat.lt_or_ge k (s.first + s.len) with z | z
      · exact z
      · rw [List.getElem?_eq_none (by rw [firstN_length]; omega)] at hd
        cases hd
    rw [firstN_get hk] at hd
    have hd' : d = .int (bit s k) := (Option.some.inj hd).symm
    subst hd'
    refine ⟨_, _, as_name, by decide, ?_⟩
    refine wm_seq (M := fun δ a => δ = [some (setD s), some (iL (setRow s).1), some (iL (setRow s).2), none, some (.int (cnt s k)), some (.int (bit s k))] ∧ a = (firstN (cnt s) (k + 1)).map .int) (wm_append (ev_var rfl) (by rw [List.length_map, firstN_length]; omega) ⟨rfl, ?_⟩) ?_
    · rw [firstN_succ, List.map_append]
      rfl
    · rintro δ a ⟨rfl, rfl⟩
      exact wm_set (ev_add (ev_var rfl) (ev_var rfl)) (by decide) ⟨_, rfl, rfl⟩
  · rintro δ a ⟨y, rfl, rfl⟩
    refine ⟨⟨_, _, rfl⟩, ?_⟩
    rw [hrow, List.length_map, firstN_length]
  · rintro δ a ⟨⟨x, y, rfl⟩, rfl⟩
    refine wx_freeze (w_ret (ev_call (ea_cons (ev_tup (ea_cons (ev_toI (ns := firstN (cnt s) (s.first + s.len)) (ev_var rfl) (ev_lenI (ev_var rfl))) (ea_cons (ev_fromI (ns := firstN (cnt s) (s.first + s.len)) (ev_var rfl) (ev_lenI (ev_var rfl))) (ea_cons (ev_sum (ev_var rfl)) ea_nil)))) ea_nil) ⟨cntLad s, ?_, cntLad_fit ⟨ok.ok, by show s.first ≤ BT; exact Nat.le_trans h1 (by decide), ok.len⟩ (Nat.le_refl _), rfl⟩) rfl)
    rw [l1, firstN_take (Nat.le_add_right _ _), firstN_drop, show s.first + s.len - s.first = s.len by omega]
    rfl
theorem w_first_at_least (ds : List D) (r : D) (h : S_first_at_least ds r) : W (t_first_at_least K) (startD 9 ds) (fun _ => r = .none) no no (fun d => d = r) := by
  obtain ⟨d, n, rfl, rfl⟩ := h
  refine x_asg (ev_var rfl) (as_tup (as_cons as_name (as_cons as_name (as_cons as_name as_nil)))) ?_
  refine w_seq (w_for (fun i δ => δ = [some (ladD ⟨[], [(d : Int)], 1⟩), some (.int (n : Int)), some (iL []), some (iL [(d : Int)]), some (.int 1), none, none, none, none]) (ei_enumI (ns := []) (ev_var rfl)) rfl (fun i δ z hz => by cases hz) fun δ hd => hd) ?_
  rintro δ rfl
  refine x_set (d := .int ((n - d : Nat) : Int)) ((ev_max2 ev_int (ev_div (i := (n : Int) - (d : Int)) (j := 1) ((ev_sub (ev_add (ev_sub (ev_var rfl) (ev_ixL (d := .int (d : Int)) (ev_var rfl) (ev_neg ev_int) rfl)) (ev_var rfl)) ev_int).to (by congr 1; omega)) (ev_var rfl) (by decide) (by decide))).to ?_) ?_
  · rw [Int.ediv_one]
    congr 1
    omega
  refine x_set (d := .int ((0 : Nat) : Int)) (ev_ixL (xs := [.int ((0 : Nat) : Int)]) (i := 0) ((ev_lcI (List.range [(d : Int)].length) (fun i : Nat => PyData.tuple [.int (i : Nat), .int ([(d : Int)].getD i 0)]) (fun i => decide ((n : Int) ≤ [(d : Int)].getD i 0 + 1 * ((n - d : Nat) : Int))) (fun i : Nat => (i : Int)) _ (fun i => _) (ei_enumI (ns := [(d : Int)]) (ev_var rfl)) (by show 1 < sizeLine; rw [sizeLine_is]; decide) (fun j hj => hj) (fun i hi => as_tup (as_cons as_name (as_cons as_name as_nil)))
    (fun i hi => et_test (ev_ge (ev_add (ev_var rfl) (ev_mul (ev_var rfl) (ev_var rfl) (.inl ⟨by decide, by decide⟩))) (ev_var rfl))) fun i hi _ => ev_var rfl).to ?_) ev_int rfl) ?_
  · show iL (((List.range 1).filter _).map _) = _
    rw [List.filter_eq_self.mpr]
    · rfl
    · intro i hi
      have : i = 0 := by
        have := List.mem_range.mp hi
        omega
      subst this
      refine decide_eq_true ?_
      show (n : Int) ≤ (d : Int) + 1 * ((n - d : Nat) : Int)
      omega
  refine w_ret (ev_add (ev_add (ev_lenI (ev_var rfl)) (ev_mul (ev_lenI (ev_var rfl)) (ev_var rfl) (.inl (show -(2 ^ 64) < ((1 : Nat) : Int) ∧ ((1 : Nat) : Int) < 2 ^ 64 from ⟨by decide, by decide⟩)))) (ev_var rfl)) ?_
  congr 1
  show (0 : Int) + 1 * ((n - d : Nat) : Int) + 0 = _
  omega
theorem w_par3 {δ : DE} {N B C : DE → Prop} {R : D → Prop} {i j k : Nat} {ta : TA} {d1 d2 d3 : D} (h : EvA ta δ [d1, d2, d3]) (hn : N (((δ.set i (some d1)).set j (some d2)).set k (some d3))) : W (tPar3 i j k ta) δ N B C R := fun σ F H s hl E n b c r =>
  h σ F H s hl _ fun vs F1 H1 e1 r1 => by
    obtain ⟨v, w, u, rfl, r2, r3, r4⟩ := rps3 r1
    exact ⟨v, w, u, rfl, n _ F1 H1 _ e1 ((((hl.mono e1.f).set r2 i).set r3 j).set r4 k) hn⟩
theorem x_par3 {δ : DE} {N B C : DE → Prop} {R : D → Prop} {z : TS} {i j l : Nat} {ta : TA} {d1 d2 d3 : D} (h : EvA ta δ [d1, d2, d3]) (k : W z (((δ.set i (some d1)).set j (some d2)).set l (some d3)) N B C R) : W (tSeq (tPar3 i j l ta) z) δ N B C R :=
  w_seq (M := fun δ' => δ' = _) (w_par3 h rfl) fun δ' e => by subst e; exact k
theorem tells_shift (d m : Nat) : tells ⟨[], [(d : Int)], 1⟩ m = ((d + m : Nat) : Int) := by
  rw [tells_ge (Nat.zero_le _)]
  unfold cyc
  show [(d : Int)].getD ((m - 0) % 1) 0 + 1 * (((m - 0) / 1 : Nat) : Int) = _
  rw [Nat.mod_one, Nat.div_one, Nat.sub_zero]
  show (d : Int) + 1 * (m : Int) = _
  omega
theorem line_fit (d : Nat) : LadFit ⟨[], [(d : Int)], 1⟩ BT BT := ⟨show 0 < 1 by decide, Nat.zero_le _, show 1 ≤ BT by decide, show (0 : Int) ≤ 1 by decide, show (1 : Int) < 1099511627776 by decide⟩
theorem EvI.to {wi : TI} {δ : DE} {ds ds' : List D} (h : EvI wi δ ds) (e : ds = ds') : EvI wi δ ds' := e ▸ h
theorem first_shift (d n : Nat) : (firstN (tells ⟨[], [(d : Int)], 1⟩) n).map PyData.int = (List.range n).map (fun i : Nat => (PyData.int ((d + i : Nat) : Int) : D)) := by
  unfold firstN
  rw [List.map_map]
  refine List.map_congr_left fun i _ => ?_
  show PyData.int (tells _ i) = _
  rw [tells_shift]
theorem w_joined_ladders (ds : List D) (r : D) (h : S_joined_ladders ds r) : W (t_joined_ladders K) (startD 14 ds) (fun _ => r = .none) no no (fun d => d = r) := by
  obtain ⟨d, l, rfl, ok, rfl⟩ := h
  have pos := ok.pos
  have h1 : l.early.length ≤ 1000 := ok.early
  have h2 : l.turn.length ≤ 1000000 := ok.turn
  have r0 := ok.r0
  have r1 := ok.r1
  refine x_asg (ev_var rfl) (as_tup (as_cons as_name (as_cons as_name (as_cons as_name as_nil)))) ?_
  refine x_asg (ev_var rfl) (as_tup (as_cons as_name (as_cons as_name (as_cons as_name as_nil)))) ?_
  refine x_par3 (d1 := .int ((0 : Nat) : Int)) (d2 := .int ((1 : Nat) : Int)) (ea_cons (ev_lenI (ns := []) (ev_var rfl)) (ea_cons (ev_lenI (ns := [(d : Int)]) (ev_var rfl)) (ea_cons ev_int ea_nil))) ?_
  refine w_seq (M := fun δ => δ = [some (ladD ⟨[], [(d : Int)], 1⟩), some (ladD l), some (iL []), some (iL [(d : Int)]), some (.int 1), some (iL l.early), some (iL l.turn), some (.int l.rise), some (.int ((l.early.length - d : Nat) : Int)), some (.int (l.turn.length : Int)), some (.int l.rise), some (.int (l.turn.length : Int)), none, none])
    (w_if (et_test (ev_gt (ev_var rfl) ev_int)) (fun e => ?_) fun e => absurd (show decide ((0 : Int) < 1) = false from e) (by decide)) ?_
  · refine x_set (d := .int ((l.early.length - d : Nat) : Int)) ((ev_maxN (ev_var rfl) (ev_call (ea_cons (ev_var rfl) (ea_cons (ev_lenI (ev_var rfl)) ea_nil)) ⟨d, l.early.length, rfl, rfl⟩)).to (by rw [Nat.zero_max])) ?_
    refine x_set (d := .int (l.turn.length : Int)) ((ev_divN (a := l.turn.length) (b := Nat.gcd 1 l.turn.length) (ev_lenI (ev_var rfl)) (ev_call (ea_cons (ev_var rfl) (ea_cons (ev_lenI (ev_var rfl)) ea_nil)) ⟨1, l.turn.length, rfl, rfl⟩) (by rw [Nat.gcd_one_left]; decide) (by rw [Nat.gcd_one_left]; decide)).to (by rw [Nat.gcd_one_left, Nat.div_one])) ?_
    refine w_par (d1 := .int (l.turn.length : Int)) (d2 := .int l.rise) (ea_cons ((ev_mulN (a := 1) (ev_var rfl) (ev_var rfl) (by omega)).to (by rw [Nat.one_mul])) (ea_cons ((ev_mul (i := 1) (ev_divN (a := l.turn.length) ((ev_mul (i := 1) (ev_var rfl) (ev_var rfl) (.inl ⟨by decide, by decide⟩)).to (by rw [Int.one_mul])) (ev_lenI (ev_var rfl)) pos (by omega) |>.to (by rw [Nat.div_self pos]; rfl)) (ev_var rfl) (.inl ⟨by decide, by decide⟩)).to (by rw [Int.one_mul])) ea_nil)) ?_
    rfl
  · rintro δ rfl
    have hsl : shiftLad d l = ⟨firstN (fun n => tells l (d + n)) (l.early.length - d), firstN (fun i => tells l (d + (l.early.length - d + i))) l.turn.length, l.rise⟩ := rfl
    refine x_set (d := iL (firstN (fun n => tells l (d + n)) (l.early.length - d + l.turn.length))) ((ev_lcYI (List.range (l.early.length - d + l.turn.length)) (fun i : Nat => PyData.int ((d + i : Nat) : Int)) (fun i => tells l (d + i)) [13] (fun i => _)
      ((ei_listI (ns := firstN (tells ⟨[], [(d : Int)], 1⟩) (l.early.length - d + l.turn.length)) (ev_call (ea_cons (ev_var rfl) (ea_cons (ev_addN (ev_var rfl) (ev_var rfl)) ea_nil)) ⟨⟨[], [(d : Int)], 1⟩, _, rfl, line_fit d, by omega, rfl⟩)).to (first_shift d _)) (by rw [List.length_range, sizeLine_is]; omega) (fun j hj => hj) (fun i hi => as_name)
      fun i hi => ev_call (ea_cons (ev_var rfl) (ea_cons (ev_var rfl) ea_nil)) ⟨l, d + i, rfl, ⟨pos, by show l.early.length ≤ 1000000; omega, ok.turn, r0, r1⟩, rfl⟩).to rfl) ?_
    refine w_ret (ev_call (ea_cons (ev_tup (ea_cons (ev_toI (ev_var rfl) (ev_var rfl)) (ea_cons (ev_fromI (ev_var rfl) (ev_var rfl)) (ea_cons (ev_var rfl) ea_nil)))) ea_nil) ⟨shiftLad d l, ?_, ?_, rfl⟩) rfl
    · rw [firstN_take (Nat.le_add_right _ _), firstN_drop, show l.early.length - d + l.turn.length - (l.early.length - d) = l.turn.length by omega, hsl]
      rfl
    · have f := shift_fit (d := d) ok
      exact ⟨f.pos, Nat.le_trans f.early (by decide), f.turn, f.r0, f.r1⟩
theorem LadFit.bt {l : Lad} (h : LadFit l BE BT) : LadFit l BT BT := ⟨h.pos, Nat.le_trans h.early (by decide), h.turn, h.r0, h.r1⟩
theorem w_added_ladders (ds : List D) (r : D) (h : S_added_ladders ds r) : W (t_added_ladders K) (startD 8 ds) (fun _ => r = .none) no no (fun d => d = r) := by
  obtain ⟨l, k, rfl, ⟨f1, f2, f3⟩, hr, rfl⟩ := h
  have e1 : l.early.length ≤ 1000 := f1.early
  have e2 : k.early.length ≤ 1000 := f2.early
  have f3' : Nat.lcm l.turn.length k.turn.length ≤ 1000000 := f3
  have fit := add_fit f1 f2 f3 hr
  have hadd : addLad l k = ⟨firstN (fun n => tells l n + tells k n) (max l.early.length k.early.length), firstN (fun i => tells l (max l.early.length k.early.length + i) + tells k (max l.early.length k.early.length + i)) (Nat.lcm l.turn.length k.turn.length), l.rise * ((Nat.lcm l.turn.length k.turn.length / l.turn.length : Nat) : Int) + k.rise * ((Nat.lcm l.turn.length k.turn.length / k.turn.length : Nat) : Int)⟩ := rfl
  refine x_asg (ev_call (ea_cons (ev_var rfl) (ea_cons (ev_var rfl) ea_nil)) ⟨l, k, rfl, f1, f2, rfl⟩) (as_tup (as_cons as_name (as_cons as_name as_nil))) ?_
  generalize max l.early.length k.early.length = a at *
  generalize Nat.lcm l.turn.length k.turn.length = b at *
  have ha : a ≤ 1000 ∨ 1000 < a := by omega
  refine x_set (d := .int ((a + b : Nat) : Int)) (ev_addN (ev_var rfl) (ev_var rfl)) ?_
  have aB : a ≤ 1000 := by
    have := fit.early
    rw [hadd, show (Lad.early ⟨firstN (fun n => tells l n + tells k n) a, firstN (fun i => tells l (a + i) + tells k (a + i)) b, l.rise * ((b / l.turn.length : Nat) : Int) + k.rise * ((b / k.turn.length : Nat) : Int)⟩) = firstN (fun n => tells l n + tells k n) a from rfl, firstN_length] at this
    exact this
  refine x_set (d := iL (firstN (fun n => tells l n + tells k n) (a + b))) ((ev_zipI (ns := firstN (tells l) (a + b)) (ms := firstN (tells k) (a + b)) (fun x y => x + y) (ev_call (ea_cons (ev_var rfl) (ea_cons (ev_var rfl) ea_nil)) ⟨l, a + b, rfl, LadFit.bt f1, by omega, rfl⟩) (ev_call (ea_cons (ev_var rfl) (ea_cons (ev_var rfl) ea_nil)) ⟨k, a + b, rfl, LadFit.bt f2, by omega, rfl⟩) (by rw [firstN_length, sizeLine_is]; omega) fun x y _ _ => ev_add (ev_var rfl) (ev_var rfl)).to (by rw [firstN_zip])) ?_
  refine w_ret (ev_call (ea_cons (ev_tup (ea_cons (ev_toI (ev_var rfl) (ev_var rfl)) (ea_cons (ev_fromI (ev_var rfl) (ev_var rfl)) (ea_cons (ev_add (ev_call (ea_cons (ev_var rfl) (ea_cons (ev_var rfl) ea_nil)) ⟨l, b, rfl, f1, rfl⟩) (ev_call (ea_cons (ev_var rfl) (ea_cons (ev_var rfl) ea_nil)) ⟨k, b, rfl, f2, rfl⟩)) ea_nil)))) ea_nil) ⟨addLad l k, ?_, ⟨fit.pos, Nat.le_trans fit.early (by decide), fit.turn, fit.r0, fit.r1⟩, rfl⟩) rfl
  rw [firstN_take (Nat.le_add_right _ _), firstN_drop, show a + b - a = b by omega, hadd]
  rfl
theorem unlike_some {f g : Nat → Int} {n i : Nat} (h : i < n) (hne : f i ≠ g i) (hlt : ∀ j, j < i → f j = g j) : unlike f g n = some i := by
  unfold unlike
  rw [List.find?_range_eq_some]
  refine ⟨?_, List.mem_range.mpr h, fun j hj => ?_⟩
  · rw [Bool.not_eq_true', decide_eq_false_iff_not]
    exact hne
  · rw [Bool.not_not, decide_eq_true_iff]
    exact hlt j hj
theorem unlike_none {f g : Nat → Int} {n : Nat} (h : ∀ j, j < n → f j = g j) : unlike f g n = none := by
  unfold unlike
  rw [List.find?_eq_none]
  intro j hj z
  rw [Bool.not_eq_true', decide_eq_false_iff_not] at z
  exact z (h j (List.mem_range.mp hj))
theorem w_unlike_day (ds : List D) (r : D) (h : S_unlike_day ds r) : W (t_unlike_day K) (startD 6 ds) (fun _ => r = .none) no no (fun d => d = r) := by
  obtain ⟨l, k, rfl, f1, f2, rfl⟩ := h
  have e1 : l.early.length ≤ 1000 := f1.early
  have e2 : k.early.length ≤ 1000 := f2.early
  have t1 : l.turn.length ≤ 1000000 := f1.turn
  have t2 : k.turn.length ≤ 1000000 := f2.turn
  refine x_set (ev_addN (b := 1) (ev_addN (ev_addN (ev_maxN (ev_lenI (ev_ixT (ev_var rfl) ev_int rfl)) (ev_lenI (ev_ixT (ev_var rfl) ev_int rfl))) (ev_lenI (ev_ixT (ev_var rfl) ev_int rfl))) (ev_lenI (ev_ixT (ev_var rfl) ev_int rfl))) ev_int) ?_
  have hm : max l.early.length k.early.length + l.turn.length + k.turn.length + 1 ≤ 10000000 := by omega
  generalize max l.early.length k.early.length + l.turn.length + k.turn.length + 1 = m at hm
  refine w_seq (M := fun δ => ∀ j, j < m → tells l j = tells k j) (w_for (fun i δ => ∃ x y z, δ = [some (ladD l), some (ladD k), some (.int (m : Int)), x, y, z] ∧ ∀ j, j < i → tells l j = tells k j)
    (ei_enZI (ev_call (ea_cons (ev_var rfl) (ea_cons (ev_var rfl) ea_nil)) ⟨l, m, rfl, LadFit.bt f1, hm, rfl⟩) (ev_call (ea_cons (ev_var rfl) (ea_cons (ev_var rfl) ea_nil)) ⟨k, m, rfl, LadFit.bt f2, hm, rfl⟩)) ⟨none, none, none, rfl, fun j hj => absurd hj (Nat.not_lt_zero j)⟩ ?_ ?_) ?_
  · rintro i δ d hd ⟨x, y, z, rfl, hlt⟩
    rw [firstN_length, firstN_length, Nat.min_self, List.getElem?_map] at hd
    have hi : i < m := by
      rcases Nat.lt_or_ge i m with q | q
      · exact q
      · rw [List.getElem?_eq_none (by rw [List.length_range]; exact q)] at hd
        cases hd
    rw [List.getElem?_range hi] at hd
    have hd' : d = .tuple [.int (i : Nat), .tuple [.int (tells l i), .int (tells k i)]] := by
      have := (Option.some.inj hd).symm
      dsimp only at this
      rw [firstN_getD hi, firstN_getD hi] at this
      exact this
    subst hd'
    refine ⟨_, _, as_tup (as_cons as_name (as_cons (as_tup (as_cons as_name (as_cons as_name as_nil))) as_nil)), ?_⟩
    refine w_if (et_test (ev_neI (ev_var rfl) (ev_var rfl))) (fun e => ?_) fun e => ?_
    · rw [Bool.not_eq_true', decide_eq_false_iff_not] at e
      refine w_ret (ev_var rfl) ?_
      rw [unlike_some hi e hlt]
      rfl
    · rw [Bool.not_eq_false', decide_eq_true_iff] at e
      refine w_next ⟨_, _, _, rfl, fun j hj => ?_⟩
      rcases Nat.lt_or_ge j i with q | q
      · exact hlt j q
      · rw [show j = i by omega]
        exact e
  · rintro δ ⟨x, y, z, rfl, hlt⟩ j hj
    refine hlt j ?_
    rw [List.length_map, List.length_range, firstN_length, firstN_length, Nat.min_self]
    exact hj
  · intro δ hall
    refine w_ret ev_non ?_
    rw [unlike_none hall]
    rfl
theorem w_less_day (ds : List D) (r : D) (h : S_less_day ds r) : W (t_less_day K) (startD 11 ds) (fun _ => r = .none) no no (fun d => d = r) := by
  obtain ⟨l, k, rfl, ⟨f1, f2, f3⟩, hle, rfl⟩ := h
  have e1 : l.early.length ≤ 1000 := f1.early
  have e2 : k.early.length ≤ 1000 := f2.early
  have hrise := rise_le f1.pos f2.pos hle
  have f3' : Nat.lcm l.turn.length k.turn.length ≤ 1000000 := f3
  refine x_asg (ev_call (ea_cons (ev_var rfl) (ea_cons (ev_var rfl) ea_nil)) ⟨l, k, rfl, f1, f2, rfl⟩) (as_tup (as_cons as_name (as_cons as_name as_nil))) ?_
  have aB : max l.early.length k.early.length ≤ 1000 := by omega
  have hg : k.rise * ((Nat.lcm l.turn.length k.turn.length / k.turn.length : Nat) : Int) - l.rise * ((Nat.lcm l.turn.length k.turn.length / l.turn.length : Nat) : Int) ≤ 0 := by omega
  clear hrise f3
  generalize max l.early.length k.early.length = a at *
  generalize Nat.lcm l.turn.length k.turn.length = b at *
  refine x_par (ea_cons (ev_addN (ev_var rfl) (ev_var rfl)) (ea_cons (ev_sub (ev_call (ea_cons (ev_var rfl) (ea_cons (ev_var rfl) ea_nil)) ⟨k, b, rfl, f2, rfl⟩) (ev_call (ea_cons (ev_var rfl) (ea_cons (ev_var rfl) ea_nil)) ⟨l, b, rfl, f1, rfl⟩)) ea_nil)) ?_
  generalize k.rise * ((b / k.turn.length : Nat) : Int) - l.rise * ((b / l.turn.length : Nat) : Int) = g at *
  have hm : a + b ≤ 10000000 := by omega
  refine x_set ev_non ?_
  refine w_seq (M := fun δ => δ[6]? = some (some .none)) (w_for (fun i δ => ∃ x y z, δ = [some (ladD l), some (ladD k), some (.int (a : Int)), some (.int (b : Int)), some (.int ((a + b : Nat) : Int)), some (.int g), some .none, x, y, z, none])
    (ei_enZI (ev_call (ea_cons (ev_var rfl) (ea_cons (ev_var rfl) ea_nil)) ⟨l, a + b, rfl, LadFit.bt f1, hm, rfl⟩) (ev_call (ea_cons (ev_var rfl) (ea_cons (ev_var rfl) ea_nil)) ⟨k, a + b, rfl, LadFit.bt f2, hm, rfl⟩)) ⟨none, none, none, rfl⟩ ?_ ?_) ?_
  · rintro i δ d hd ⟨x, y, z, rfl⟩
    rw [firstN_length, firstN_length, Nat.min_self, List.getElem?_map] at hd
    have hi : i < a + b := by
      rcases Nat.lt_or_ge i (a + b) with q | q
      · exact q
      · rw [List.getElem?_eq_none (by rw [List.length_range]; exact q)] at hd
        cases hd
    rw [List.getElem?_range hi] at hd
    have hd' : d = .tuple [.int (i : Nat), .tuple [.int (tells l i), .int (tells k i)]] := by
      have := (Option.some.inj hd).symm
      dsimp only at this
      rw [firstN_getD hi, firstN_getD hi] at this
      exact this
    subst hd'
    refine ⟨_, _, as_tup (as_cons as_name (as_cons (as_tup (as_cons as_name (as_cons as_name as_nil))) as_nil)), ?_⟩
    refine x_if (et_test (ev_lt (ev_var rfl) (ev_var rfl))) (fun e => ?_) fun e => ?_
    · have := of_decide_eq_true e
      have := hle i
      omega
    · refine w_if (et_and (et_test (ev_ge (ev_var rfl) (ev_var rfl))) fun _ => et_test (ev_gt (ev_var rfl) ev_int)) (fun e2 => ?_) fun e2 => w_next ⟨_, _, _, rfl⟩
      rw [Bool.and_eq_true] at e2
      have := of_decide_eq_true e2.2
      omega
  · rintro δ ⟨x, y, z, rfl⟩
    rfl
  · intro δ h6
    exact w_ret (ev_var h6) rfl
end
end LD
/-! W6: the sets' and the ladders' defs. -/
namespace LM
theorem bit_again {s : DSet} (h : 0 < s.len) {n : Nat} (hn : s.first ≤ n) : bit s (n + s.len) = bit s n := by
  unfold bit
  rw [if_neg (show ¬ n + s.len < s.first by omega), if_neg (show ¬ n < s.first by omega), show n + s.len - s.first = n - s.first + s.len by omega, Nat.add_mod_right]
theorem tells_row {s : DSet} (h : 0 < s.len) (n : Nat) : tells (rowLad (setRow s)) n = bit s n :=
  tells_of (f := bit s) (b := s.first) (L := s.len) (g := 0) h (fun n hn => by rw [bit_again h hn]; omega) n
theorem row_fit {s : DSet} {e t : Nat} (h : SetFit s e t) : LadFit (rowLad (setRow s)) e t :=
  ⟨by rw [show (rowLad (setRow s)).turn.length = s.len from firstN_length _ _]; exact h.ok.pos, by rw [show (rowLad (setRow s)).early.length = s.first from firstN_length _ _]; exact h.first, by rw [show (rowLad (setRow s)).turn.length = s.len from firstN_length _ _]; exact h.len, Int.le_refl 0, show (0 : Int) < 1099511627776 by decide⟩
theorem row_tells {s : DSet} (h : 0 < s.len) : tells (rowLad (setRow s)) = bit s := funext fun n => tells_row h n
theorem mix_fit {f : Int → Int → Int} {s t : DSet} {e b : Nat} (h1 : SetOk s) (h2 : SetOk t) (he : max s.first t.first ≤ e) (hb : Nat.lcm s.len t.len ≤ b) : LadFit (rowLad (mixRow f s t)) e b :=
  ⟨by rw [show (rowLad (mixRow f s t)).turn.length = Nat.lcm s.len t.len from firstN_length _ _]; exact Nat.lcm_pos h1.pos h2.pos, by rw [show (rowLad (mixRow f s t)).early.length = max s.first t.first from firstN_length _ _]; exact he,
    by rw [show (rowLad (mixRow f s t)).turn.length = Nat.lcm s.len t.len from firstN_length _ _]; exact hb, Int.le_refl 0, show (0 : Int) < 1099511627776 by decide⟩
end LM
namespace LD
open PySem PySem.Spec PyProof.Rows L2 LM
section
variable {K : PySem.W.Frag}
theorem LadFit.be {l : Lad} (h : LadFit l BE BT) : LadFit l BT BT := LadFit.bt h
theorem w_least_set (ds : List D) (r : D) (h : S_least_set ds r) : W (t_least_set K) (startD 1 ds) (fun _ => r = .none) no no (fun d => d = r) := by
  obtain ⟨s, rfl, ok, rfl⟩ := h
  exact x_drop (ev_call (ea_cons (ev_var rfl) ea_nil) ⟨s, rfl, ok, rfl⟩) (w_ret (ev_call (ea_cons (ev_call (ea_cons (ev_var rfl) ea_nil) ⟨s, rfl, ok, rfl⟩) ea_nil) ⟨setRow s, rfl, LadFit.bt (row_fit ok), rfl⟩) rfl)
theorem w_set_of (ds : List D) (r : D) (h : S_set_of ds r) : W (t_set_of K) (startD 2 ds) (fun _ => r = .none) no no (fun d => d = r) := by
  obtain ⟨ns, rfl, hp, hl, h0, rfl⟩ := h
  refine w_seq (M := fun δ => δ[0]? = some (some (iL ns))) (w_for (fun i δ => ∃ x, δ = [some (iL ns), x]) (ei_listI (ev_var rfl)) ⟨none, rfl⟩ ?_ ?_) ?_
  · rintro i δ d hd ⟨x, rfl⟩
    rw [List.getElem?_map] at hd
    cases e : ns[i]? with
    | none => rw [e] at hd; cases hd
    | some z =>
      rw [e] at hd
      have hz : d = .int z := (Option.some.inj hd).symm
      subst hz
      exact ⟨_, _, as_name, w_drop (ev_call (ea_cons (ev_var rfl) (ea_cons ev_int ea_nil)) ⟨z, 0, rfl, h0 z (List.mem_of_getElem? e), rfl⟩) ⟨_, rfl⟩⟩
  · rintro δ ⟨x, rfl⟩
    rfl
  · intro δ h6
    exact w_ret (ev_call (ea_cons (ev_var h6) ea_nil) ⟨ns, rfl, hp, hl, h0, rfl⟩) rfl
theorem w_common_rows (ds : List D) (r : D) (h : S_common_rows ds r) : W (t_common_rows K) (startD 4 ds) (fun _ => r = .none) no no (fun d => d = r) := by
  obtain ⟨s, t, rfl, ⟨f1, f2, f3⟩, rfl⟩ := h
  have e1 : s.first ≤ 1000 := f1.first
  have e2 : t.first ≤ 1000 := f2.first
  have t1 : s.len ≤ 1000000 := f1.len
  have t2 : t.len ≤ 1000000 := f2.len
  have f3' : Nat.lcm s.len t.len ≤ 1000000 := f3
  have p1 := f1.ok.pos
  have p2 := f2.ok.pos
  refine x_par (d1 := .int ((max s.first t.first : Nat) : Int)) (d2 := .int ((max s.first t.first + Nat.lcm s.len t.len : Nat) : Int)) (ea_cons (ev_maxN (ev_ixT (ev_var rfl) ev_int rfl) (ev_ixT (ev_var rfl) ev_int rfl)) (ea_cons (ev_addN (ev_maxN (ev_ixT (ev_var rfl) ev_int rfl) (ev_ixT (ev_var rfl) ev_int rfl))
    (ev_call (ea_cons (ev_ixT (ev_var rfl) ev_int rfl) (ea_cons (ev_ixT (ev_var rfl) ev_int rfl) ea_nil)) ⟨s.len, t.len, rfl, p1, p2, by omega, by omega, rfl⟩)) ea_nil)) ?_
  refine w_ret (ev_tup (ea_cons (ev_var rfl) (ea_cons (ev_call (ea_cons (ev_call (ea_cons (ev_var rfl) ea_nil) ⟨s, rfl, f1, rfl⟩) (ea_cons (ev_var rfl) ea_nil)) ⟨setRow s, _, rfl, LadFit.bt (row_fit f1), by omega, rfl⟩)
    (ea_cons (ev_call (ea_cons (ev_call (ea_cons (ev_var rfl) ea_nil) ⟨t, rfl, f2, rfl⟩) (ea_cons (ev_var rfl) ea_nil)) ⟨setRow t, _, rfl, LadFit.bt (row_fit f2), by omega, rfl⟩) ea_nil)))) ?_
  rw [row_tells p1, row_tells p2]
/-- both, either, but: the same around what they make of two bits -/
theorem w_mix {te : TE} {s t : DSet} (f : Int → Int → Int) (hs : TwoSets s t) (he : ∀ (δ : DE) (a b : Int), (a = 0 ∨ a = 1) → (b = 0 ∨ b = 1) → δ[6]? = some (some (.int a)) → δ[7]? = some (some (.int b)) → EvD te δ (.int (f a b))) :
    W (tSeq (tDrop (tCall sp_need_two_days [] E0 (tCons (tVar 0) (tCons (tVar 1) tNil))))
    (tSeq (tAsg (tCall sp_common_rows [] E0 (tCons (tVar 0) (tCons (tVar 1) tNil))) (gTup K 3 (gCons (gName 2) (gCons (gName 3) (gCons (gName 4) gNil)))))
    (tSeq (tAsg (tLc (iZip K (tCons (tVar 3) (tCons (tVar 4) tNil))) (gTup K 2 (gCons (gName 6) (gCons (gName 7) gNil))) tYes te [6, 7]) (gName 5))
    (tRet (tCall sp_set_from [] E0 (tCons (tTup (tCons (tSl (rSlL K) (tVar 5) tNoPart (tPart (tVar 2))) (tCons (tSl (rSlL K) (tVar 5) (tPart (tVar 2)) tNoPart) tNil))) tNil)))))) (startD 8 [setD s, setD t]) (fun _ => setD (setFrom (mixRow f s t)) = .none) no no (fun d => d = setD (setFrom (mixRow f s t))) := by
  obtain ⟨f1, f2, f3⟩ := hs
  have e1 : s.first ≤ 1000 := f1.first
  have e2 : t.first ≤ 1000 := f2.first
  have fit := mix_fit (f := f) f1.ok f2.ok (e := 1000) (by omega) f3
  have f3' : Nat.lcm s.len t.len ≤ 1000000 := f3
  have hm : mixRow f s t = (firstN (fun n => f (bit s n) (bit t n)) (max s.first t.first), firstN (fun i => f (bit s (max s.first t.first + i)) (bit t (max s.first t.first + i))) (Nat.lcm s.len t.len)) := rfl
  refine x_drop (ev_call (ea_cons (ev_var rfl) (ea_cons (ev_var rfl) ea_nil)) ⟨s, t, rfl, f1, f2, rfl⟩) ?_
  refine x_asg (ev_call (ea_cons (ev_var rfl) (ea_cons (ev_var rfl) ea_nil)) ⟨s, t, rfl, ⟨f1, f2, f3⟩, rfl⟩) (as_tup (as_cons as_name (as_cons as_name (as_cons as_name as_nil)))) ?_
  have m01 : ∀ (u : DSet) (n : Nat) (x : Int), x ∈ firstN (bit u) n → x = 0 ∨ x = 1 := fun u n x hx => by
    obtain ⟨i, _, rfl⟩ := List.mem_map.mp hx
    exact bit_01 u i
  have aB : max s.first t.first ≤ 1000 := by omega
  generalize max s.first t.first = a at *
  generalize Nat.lcm s.len t.len = b at *
  refine x_set (d := iL (firstN (fun n => f (bit s n) (bit t n)) (a + b))) ((ev_zipI (ns := firstN (bit s) (a + b)) (ms := firstN (bit t) (a + b)) f (ev_var rfl) (ev_var rfl) (by rw [firstN_length, sizeLine_is]; omega) fun x y hx hy => he _ x y (m01 s _ x hx) (m01 t _ y hy) rfl rfl).to (by rw [firstN_zip])) ?_
  refine w_ret (ev_call (ea_cons (ev_tup (ea_cons (ev_toI (ev_var rfl) (ev_var rfl)) (ea_cons (ev_fromI (ev_var rfl) (ev_var rfl)) ea_nil))) ea_nil) ⟨mixRow f s t, ?_, ⟨fit.pos, Nat.le_trans fit.early (by decide), fit.turn, fit.r0, fit.r1⟩, rfl⟩) rfl
  rw [firstN_take (Nat.le_add_right _ _), firstN_drop, show a + b - a = b by omega, hm]
  rfl
theorem w_both (ds : List D) (r : D) (h : S_both ds r) : W (t_both K) (startD 8 ds) (fun _ => r = .none) no no (fun d => d = r) := by
  obtain ⟨s, t, rfl, hs, rfl⟩ := h
  exact w_mix (fun a b => a * b) hs fun δ a b ha hb h6 h7 => ev_mul (ev_var h6) (ev_var h7) (.inl ⟨by omega, by omega⟩)
theorem w_either (ds : List D) (r : D) (h : S_either ds r) : W (t_either K) (startD 8 ds) (fun _ => r = .none) no no (fun d => d = r) := by
  obtain ⟨s, t, rfl, hs, rfl⟩ := h
  exact w_mix (fun a b => max a b) hs fun δ a b ha hb h6 h7 => ev_max2 (ev_var h6) (ev_var h7)
theorem w_but (ds : List D) (r : D) (h : S_but ds r) : W (t_but K) (startD 8 ds) (fun _ => r = .none) no no (fun d => d = r) := by
  obtain ⟨s, t, rfl, hs, rfl⟩ := h
  exact w_mix (fun a b => a * (1 - b)) hs fun δ a b ha hb h6 h7 => ev_mul (ev_var h6) (ev_sub ev_int (ev_var h7)) (.inl ⟨by omega, by omega⟩)
theorem w_others (ds : List D) (r : D) (h : S_others ds r) : W (t_others K) (startD 4 ds) (fun _ => r = .none) no no (fun d => d = r) := by
  obtain ⟨s, rfl, ok, rfl⟩ := h
  have e1 : s.first ≤ 1000 := ok.first
  have t1 : s.len ≤ 1000000 := ok.len
  have l1 : (setRow s).1.length = s.first := firstN_length _ _
  have l2 : (setRow s).2.length = s.len := firstN_length _ _
  refine x_drop (ev_call (ea_cons (ev_var rfl) ea_nil) ⟨s, rfl, ok, rfl⟩) ?_
  refine x_asg (ev_call (ea_cons (ev_var rfl) ea_nil) ⟨s, rfl, ok, rfl⟩) (as_tup (as_cons as_name (as_cons as_name as_nil))) ?_
  refine w_ret (ev_call (ea_cons (ev_tup (ea_cons (ev_lcYI (setRow s).1 PyData.int (fun x => 1 - x) [3] (fun x => _) (ei_listI (ev_var rfl)) (by rw [l1, sizeLine_is]; omega) (fun j hj => hj) (fun x hx => as_name) fun x hx => ev_sub ev_int (ev_var rfl))
    (ea_cons (ev_lcYI (setRow s).2 PyData.int (fun x => 1 - x) [3] (fun x => _) (ei_listI (ev_var rfl)) (by rw [l2, sizeLine_is]; omega) (fun j hj => hj) (fun x hx => as_name) fun x hx => ev_sub ev_int (ev_var rfl)) ea_nil))) ea_nil) ⟨((setRow s).1.map (1 - ·), (setRow s).2.map (1 - ·)), rfl, ?_, rfl⟩) rfl
  exact ⟨by show 0 < ((setRow s).2.map _).length; rw [List.length_map, l2]; exact ok.ok.pos, by show ((setRow s).1.map _).length ≤ 1000000; rw [List.length_map, l1]; omega, by show ((setRow s).2.map _).length ≤ 1000000; rw [List.length_map, l2]; omega, Int.le_refl 0, show (0 : Int) < 1099511627776 by decide⟩
theorem flat_rep (k : Nat) : (List.replicate k [(PyData.int 0 : D)]).flatten = (List.replicate k (0 : Int)).map PyData.int := by
  induction k with
  | zero => rfl
  | succ k ih => rw [List.replicate_succ, List.replicate_succ, List.flatten_cons, ih]; rfl
theorem w_moved (ds : List D) (r : D) (h : S_moved ds r) : W (t_moved K) (startD 5 ds) (fun _ => r = .none) no no (fun d => d = r) := by
  obtain ⟨s, k, ok, hk, h⟩ := h
  have hk' : k ≤ 1000 := hk
  have e1 : s.first ≤ 1000 := ok.first
  have t1 : s.len ≤ 1000000 := ok.len
  have pos := ok.ok.pos
  have l1 : (setRow s).1.length = s.first := firstN_length _ _
  have l2 : (setRow s).2.length = s.len := firstN_length _ _
  rcases h with ⟨rfl, rfl⟩ | ⟨k0, rfl, rfl⟩
  · refine x_drop (ev_call (ea_cons (ev_var rfl) ea_nil) ⟨s, rfl, ok, rfl⟩) ?_
    refine x_asg (ev_call (ea_cons (ev_var rfl) ea_nil) ⟨s, rfl, ok, rfl⟩) (as_tup (as_cons as_name (as_cons as_name as_nil))) ?_
    refine x_if (et_test (ev_ge (ev_var rfl) ev_int)) (fun e => ?_) fun e => ?_
    · refine w_ret (ev_call (ea_cons (ev_tup (ea_cons (ev_catI (ns := List.replicate k 0) ((ev_rep (ev_lst (ea_cons ev_int ea_nil)) (ev_var rfl) (by omega) (by omega) ?_).to ?_) (ev_var rfl) ?_) (ea_cons (ev_var rfl) ea_nil))) ea_nil) ⟨(List.replicate k 0 ++ (setRow s).1, (setRow s).2), rfl, ?_, rfl⟩) rfl
      · show 1 * ((k : Int)).toNat ≤ sizeLine
        rw [sizeLine_is, Int.toNat_natCast]
        omega
      · rw [Int.toNat_natCast, flat_rep]
      · rw [List.length_replicate, l1]
        omega
      · exact ⟨by show 0 < ((setRow s).2).length; rw [l2]; exact pos, by show (List.replicate k 0 ++ (setRow s).1).length ≤ 1000000; rw [List.length_append, List.length_replicate, l1]; omega, by show ((setRow s).2).length ≤ 1000000; rw [l2]; omega, Int.le_refl 0, show (0 : Int) < 1099511627776 by decide⟩
    · have := of_decide_eq_false e
      omega
  · refine x_drop (ev_call (ea_cons (ev_var rfl) ea_nil) ⟨s, rfl, ok, rfl⟩) ?_
    refine x_asg (ev_call (ea_cons (ev_var rfl) ea_nil) ⟨s, rfl, ok, rfl⟩) (as_tup (as_cons as_name (as_cons as_name as_nil))) ?_
    refine x_if (et_test (ev_ge (ev_var rfl) ev_int)) (fun e => ?_) fun e => ?_
    · have := of_decide_eq_true e
      omega
    · refine x_set (d := .int (((k - s.first) % s.len : Nat) : Int)) (ev_modN ((ev_max2 ev_int (ev_sub (ev_neg (ev_var rfl)) (ev_lenI (ev_var rfl)))).to (by rw [l1]; congr 1; omega)) ((ev_lenI (ev_var rfl)).to (by rw [l2])) pos) ?_
      have hmod : (k - s.first) % s.len < s.len := Nat.mod_lt _ pos
      have hE : earlierS k s = setFrom ((setRow s).1.drop k, (setRow s).2.drop ((k - s.first) % s.len) ++ (setRow s).2.take ((k - s.first) % s.len)) := rfl
      rw [hE]
      generalize (k - s.first) % s.len = m at *
      refine w_ret (ev_call (ea_cons (ev_tup (ea_cons (ev_fromI (ev_var rfl) ((ev_neg (ev_var rfl)).to (by rw [Int.neg_neg]))) (ea_cons (ev_catI (ev_fromI (ev_var rfl) (ev_var rfl)) (ev_toI (ev_var rfl) (ev_var rfl)) ?_) ea_nil))) ea_nil) ⟨((setRow s).1.drop k, (setRow s).2.drop m ++ (setRow s).2.take m), rfl, ?_, rfl⟩) rfl
      · rw [List.length_drop, List.length_take, l2]
        omega
      · exact ⟨by show 0 < ((setRow s).2.drop m ++ (setRow s).2.take m).length; rw [List.length_append, List.length_drop, List.length_take, l2]; omega, by show ((setRow s).1.drop k).length ≤ 1000000; rw [List.length_drop, l1]; omega, by show ((setRow s).2.drop m ++ (setRow s).2.take m).length ≤ 1000000; rw [List.length_append, List.length_drop, List.length_take, l2]; omega, Int.le_refl 0, show (0 : Int) < 1099511627776 by decide⟩
theorem w_first_apart (ds : List D) (r : D) (h : S_first_apart ds r) : W (t_first_apart K) (startD 5 ds) (fun _ => r = .none) no no (fun d => d = r) := by
  obtain ⟨s, t, rfl, f1, f2, rfl⟩ := h
  have e1 : s.first ≤ 1000 := f1.first
  have e2 : t.first ≤ 1000 := f2.first
  have t1 : s.len ≤ 1000000 := f1.len
  have t2 : t.len ≤ 1000000 := f2.len
  have p1 := f1.ok.pos
  have p2 := f2.ok.pos
  refine x_drop (ev_call (ea_cons (ev_var rfl) (ea_cons (ev_var rfl) ea_nil)) ⟨s, t, rfl, f1, f2, rfl⟩) ?_
  refine x_set (ev_addN (ev_addN (ev_maxN (ev_ixT (ev_var rfl) ev_int rfl) (ev_ixT (ev_var rfl) ev_int rfl)) (ev_ixT (ev_var rfl) ev_int rfl)) (ev_ixT (ev_var rfl) ev_int rfl)) ?_
  have hm : max s.first t.first + s.len + t.len ≤ 10000000 := by omega
  generalize max s.first t.first + s.len + t.len = m at hm
  refine w_seq (M := fun δ => ∀ j, j < m → bit s j = bit t j) (w_for (fun i δ => ∃ x y, δ = [some (setD s), some (setD t), some (.int (m : Int)), x, y] ∧ ∀ j, j < i → bit s j = bit t j)
    (ei_enZI (ns := firstN (bit s) m) (ms := firstN (bit t) m) ((ev_call (ea_cons (ev_call (ea_cons (ev_var rfl) ea_nil) ⟨s, rfl, f1, rfl⟩) (ea_cons (ev_var rfl) ea_nil)) ⟨setRow s, m, rfl, LadFit.bt (row_fit f1), hm, rfl⟩).to (by rw [row_tells p1])) ((ev_call (ea_cons (ev_call (ea_cons (ev_var rfl) ea_nil) ⟨t, rfl, f2, rfl⟩) (ea_cons (ev_var rfl) ea_nil)) ⟨setRow t, m, rfl, LadFit.bt (row_fit f2), hm, rfl⟩).to (by rw [row_tells p2]))) ⟨none, none, rfl, fun j hj => absurd hj (Nat.not_lt_zero j)⟩ ?_ ?_) ?_
  · rintro i δ d hd ⟨x, y, rfl, hlt⟩
    rw [firstN_length, firstN_length, Nat.min_self, List.getElem?_map] at hd
    have hi : i < m := by
      rcases Nat.lt_or_ge i m with q | q
      · exact q
      · rw [List.getElem?_eq_none (by rw [List.length_range]; exact q)] at hd
        cases hd
    rw [List.getElem?_range hi] at hd
    have hd' : d = .tuple [.int (i : Nat), .tuple [.int (bit s i), .int (bit t i)]] := by
      have := (Option.some.inj hd).symm
      dsimp only at this
      rw [firstN_getD hi, firstN_getD hi] at this
      exact this
    subst hd'
    refine ⟨_, _, as_tup (as_cons as_name (as_cons as_name as_nil)), ?_⟩
    refine w_if (et_test (ev_neI (ev_ixT (ev_var rfl) ev_int rfl) (ev_ixT (ev_var rfl) ev_int rfl))) (fun e => ?_) fun e => ?_
    · rw [Bool.not_eq_true', decide_eq_false_iff_not] at e
      refine w_ret (ev_var rfl) ?_
      rw [unlike_some hi e hlt]
      rfl
    · rw [Bool.not_eq_false', decide_eq_true_iff] at e
      refine w_next ⟨_, _, rfl, fun j hj => ?_⟩
      rcases Nat.lt_or_ge j i with q | q
      · exact hlt j q
      · rw [show j = i by omega]
        exact e
  · rintro δ ⟨x, y, rfl, hlt⟩ j hj
    refine hlt j ?_
    rw [List.length_map, List.length_range, firstN_length, firstN_length, Nat.min_self]
    exact hj
  · intro δ hall
    refine w_ret ev_non ?_
    rw [unlike_none hall]
    rfl
theorem eqv_two (a b c d : Int) : PyData.eqv (.tuple [.int a, .int b]) (.tuple [.int c, .int d]) = decide (a = c ∧ b = d) := by
  by_cases h1 : a = c <;> by_cases h2 : b = d <;> simp [PyData.eqv, PyData.eqvAll, h1, h2]
theorem w_meeting (ds : List D) (r : D) (h : S_meeting ds r) : W (t_meeting K) (startD 7 ds) (fun _ => r = .none) no no (fun d => d = r) := by
  obtain ⟨s, t, rfl, hs, rfl⟩ := h
  obtain ⟨f1, f2, f3⟩ := hs
  have hm : meetS s t = (List.range (max s.first t.first + Nat.lcm s.len t.len)).find? fun n => decide (bit s n = 1 ∧ bit t n = 1) := rfl
  refine x_drop (ev_call (ea_cons (ev_var rfl) (ea_cons (ev_var rfl) ea_nil)) ⟨s, t, rfl, f1, f2, rfl⟩) ?_
  refine x_asg (ev_call (ea_cons (ev_var rfl) (ea_cons (ev_var rfl) ea_nil)) ⟨s, t, rfl, ⟨f1, f2, f3⟩, rfl⟩) (as_tup (as_cons as_name (as_cons as_name (as_cons as_name as_nil)))) ?_
  generalize max s.first t.first = a at *
  generalize Nat.lcm s.len t.len = b at *
  refine w_seq (M := fun δ => ∀ j, j < a + b → ¬ (bit s j = 1 ∧ bit t j = 1)) (w_for (fun i δ => ∃ x y, δ = [some (setD s), some (setD t), some (.int (a : Int)), some (iL (firstN (bit s) (a + b))), some (iL (firstN (bit t) (a + b))), x, y] ∧ ∀ j, j < i → ¬ (bit s j = 1 ∧ bit t j = 1))
    (ei_enZI (ns := firstN (bit s) (a + b)) (ms := firstN (bit t) (a + b)) (ev_var rfl) (ev_var rfl)) ⟨none, none, rfl, fun j hj => absurd hj (Nat.not_lt_zero j)⟩ ?_ ?_) ?_
  · rintro i δ d hd ⟨x, y, rfl, hlt⟩
    rw [firstN_length, firstN_length, Nat.min_self, List.getElem?_map] at hd
    have hi : i < a + b := by
      rcases Nat.lt_or_ge i (a + b) with q | q
      · exact q
      · rw [List.getElem?_eq_none (by rw [List.length_range]; exact q)] at hd
        cases hd
    rw [List.getElem?_range hi] at hd
    have hd' : d = .tuple [.int (i : Nat), .tuple [.int (bit s i), .int (bit t i)]] := by
      have := (Option.some.inj hd).symm
      dsimp only at this
      rw [firstN_getD hi, firstN_getD hi] at this
      exact this
    subst hd'
    refine ⟨_, _, as_tup (as_cons as_name (as_cons as_name as_nil)), ?_⟩
    refine w_if (et_test ((ev_eqD (ev_var rfl) (ev_tup (ea_cons ev_int (ea_cons ev_int ea_nil))) ?_ rfl).to (by rw [eqv_two]))) (fun e => ?_) fun e => ?_
    · unfold SeqAt.shaped
      simp [PyData.canLay0, PyData.canLayAll0, PyData.depth, PyData.depthAll]
    · refine w_ret (ev_var rfl) ?_
      have e' := of_decide_eq_true e
      rw [hm, List.find?_range_eq_some.mpr ⟨e, List.mem_range.mpr hi, fun j hj => by rw [Bool.not_eq_true', decide_eq_false_iff_not]; exact hlt j hj⟩]
      rfl
    · have e' := of_decide_eq_false e
      refine w_next ⟨_, _, rfl, fun j hj => ?_⟩
      rcases Nat.lt_or_ge j i with q | q
      · exact hlt j q
      · rw [show j = i by omega]
        exact e'
  · rintro δ ⟨x, y, rfl, hlt⟩ j hj
    refine hlt j ?_
    rw [List.length_map, List.length_range, firstN_length, firstN_length, Nat.min_self]
    exact hj
  · intro δ hall
    refine w_ret ev_non ?_
    rw [hm, List.find?_eq_none.mpr fun j hj z => hall j (List.mem_range.mp hj) (of_decide_eq_true z)]
    rfl
theorem w_next_day (ds : List D) (r : D) (h : S_next_day ds r) : W (t_next_day K) (startD 2 ds) (fun _ => r = .none) no no (fun d => d = r) := by
  obtain ⟨s, rfl, ok, rfl⟩ := h
  exact x_drop (ev_call (ea_cons (ev_var rfl) ea_nil) ⟨s, rfl, ok, rfl⟩) (x_drop (ev_call (ea_cons (ev_var rfl) (ea_cons ev_int ea_nil)) ⟨0, 0, rfl, Int.le_refl 0, rfl⟩) (w_ret (ev_call (ea_cons (ev_var rfl) (ea_cons (ev_var rfl) ea_nil)) ⟨s, rfl, ok, rfl⟩) rfl))
theorem w_counts (ds : List D) (r : D) (h : S_counts ds r) : W (t_counts K) (startD 1 ds) (fun _ => r = .none) no no (fun d => d = r) := by
  obtain ⟨s, rfl, ok, rfl⟩ := h
  exact x_drop (ev_call (ea_cons (ev_var rfl) ea_nil) ⟨s, rfl, ok, rfl⟩) (w_ret (ev_call (ea_cons (ev_var rfl) ea_nil) ⟨s, rfl, ok, rfl⟩) rfl)
theorem w_value (ds : List D) (r : D) (h : S_value ds r) : W (t_value K) (startD 2 ds) (fun _ => r = .none) no no (fun d => d = r) := by
  obtain ⟨l, n, rfl, ok, rfl⟩ := h
  exact x_drop (ev_call (ea_cons (ev_var rfl) ea_nil) ⟨l, rfl, ok, rfl⟩) (x_drop (ev_call (ea_cons (ev_var rfl) (ea_cons ev_int ea_nil)) ⟨n, 0, rfl, by omega, rfl⟩) (w_ret (ev_call (ea_cons (ev_var rfl) (ea_cons (ev_var rfl) ea_nil)) ⟨l, n, rfl, LadFit.bt ok.toLadFit, rfl⟩) rfl))
theorem line_ok (d : Nat) : LadOk ⟨[], [(d : Int)], 1⟩ BE BT := ⟨⟨show 0 < 1 by decide, Nat.zero_le _, show 1 ≤ BT by decide, show (0 : Int) ≤ 1 by decide, show (1 : Int) < 1099511627776 by decide⟩, by
  show ([decide ((0 : Int) ≤ (d : Int)), decide ((d : Int) ≤ (d : Int) + 1)] : List Bool).all id = true
  rw [decide_eq_true (show (0 : Int) ≤ (d : Int) by omega), decide_eq_true (show (d : Int) ≤ (d : Int) + 1 by omega)]
  rfl⟩
theorem w_joined (ds : List D) (r : D) (h : S_joined ds r) : W (t_joined K) (startD 2 ds) (fun _ => r = .none) no no (fun d => d = r) := by
  obtain ⟨d, l, rfl, ok, rfl⟩ := h
  exact x_drop (ev_call (ea_cons (ev_var rfl) (ea_cons (ev_var rfl) ea_nil)) ⟨_, l, rfl, line_ok d, ok, rfl⟩) (w_ret (ev_call (ea_cons (ev_var rfl) (ea_cons (ev_var rfl) ea_nil)) ⟨d, l, rfl, ok.toLadFit, rfl⟩) rfl)
theorem w_plus (ds : List D) (r : D) (h : S_plus ds r) : W (t_plus K) (startD 2 ds) (fun _ => r = .none) no no (fun d => d = r) := by
  obtain ⟨l, k, rfl, o1, o2, hl, hr, rfl⟩ := h
  exact x_drop (ev_call (ea_cons (ev_var rfl) (ea_cons (ev_var rfl) ea_nil)) ⟨l, k, rfl, o1, o2, rfl⟩) (w_ret (ev_call (ea_cons (ev_var rfl) (ea_cons (ev_var rfl) ea_nil)) ⟨l, k, rfl, ⟨o1.toLadFit, o2.toLadFit, hl⟩, hr, rfl⟩) rfl)
theorem w_alike (ds : List D) (r : D) (h : S_alike ds r) : W (t_alike K) (startD 2 ds) (fun _ => r = .none) no no (fun d => d = r) := by
  obtain ⟨l, k, rfl, o1, o2, rfl⟩ := h
  refine x_drop (ev_call (ea_cons (ev_var rfl) (ea_cons (ev_var rfl) ea_nil)) ⟨l, k, rfl, o1, o2, rfl⟩) (w_ret (ev_isN (ev_call (ea_cons (ev_var rfl) (ea_cons (ev_var rfl) ea_nil)) ⟨l, k, rfl, o1.toLadFit, o2.toLadFit, rfl⟩)) ?_)
  cases unlike (tells l) (tells k) (max l.early.length k.early.length + l.turn.length + k.turn.length + 1) <;> rfl
theorem w_first_unlike (ds : List D) (r : D) (h : S_first_unlike ds r) : W (t_first_unlike K) (startD 2 ds) (fun _ => r = .none) no no (fun d => d = r) := by
  obtain ⟨l, k, rfl, o1, o2, rfl⟩ := h
  exact x_drop (ev_call (ea_cons (ev_var rfl) (ea_cons (ev_var rfl) ea_nil)) ⟨l, k, rfl, o1, o2, rfl⟩) (w_ret (ev_call (ea_cons (ev_var rfl) (ea_cons (ev_var rfl) ea_nil)) ⟨l, k, rfl, o1.toLadFit, o2.toLadFit, rfl⟩) rfl)
theorem w_first_less (ds : List D) (r : D) (h : S_first_less ds r) : W (t_first_less K) (startD 2 ds) (fun _ => r = .none) no no (fun d => d = r) := by
  obtain ⟨l, k, rfl, o1, o2, hl, hle, rfl⟩ := h
  exact x_drop (ev_call (ea_cons (ev_var rfl) (ea_cons (ev_var rfl) ea_nil)) ⟨l, k, rfl, o1, o2, rfl⟩) (w_ret (ev_call (ea_cons (ev_var rfl) (ea_cons (ev_var rfl) ea_nil)) ⟨l, k, rfl, ⟨o1.toLadFit, o2.toLadFit, hl⟩, hle, rfl⟩) rfl)
theorem dec01 {p : Prop} [Decidable p] : decide ((if p then (1 : Int) else 0) = 1) = decide p := by
  by_cases h : p
  · rw [if_pos h, decide_eq_true h]
    rfl
  · rw [if_neg h, decide_eq_false h]
    rfl
theorem w_z_has (ds : List D) (r : D) (h : S_z_has ds r) : W (t_z_has K) (startD 6 ds) (fun _ => r = .none) no no (fun d => d = r) := by
  obtain ⟨s, n, rfl, ok, rfl⟩ := h
  have pos := ok.pos
  refine x_asg (ev_var rfl) (as_tup (as_cons as_name (as_cons as_name (as_cons as_name (as_cons as_name as_nil))))) ?_
  refine w_ret (ev_if (et_test (ev_lt (ev_var rfl) (ev_var rfl))) (fun e => ?_) fun e => ?_) rfl
  · have := of_decide_eq_true e
    refine (ev_inL (ev_var rfl) (ev_var rfl)).to ?_
    unfold bit
    rw [if_pos (by omega), dec01]
  · have := of_decide_eq_false e
    refine (ev_inL (ev_modN (a := n - s.first) (ev_intI (ev_subN (ev_var rfl) (ev_var rfl) (by omega))) (ev_var rfl) pos) (ev_var rfl)).to ?_
    unfold bit
    rw [if_neg (by omega), dec01]
end
end LD
/-! Dat7: expressions that change the one mutable list in slot 0 (the law's sack). -/
namespace LD
open PySem PySem.Spec PyProof.Rows L2 LM
theorem ixN_of {n j : Nat} (h : j < n) : ixN n (j : Int) = some j := by
  unfold ixN
  rw [if_pos (by omega), if_pos (by omega), Int.toNat_natCast]
def EvM (te : TE) (δ : DE) (acc : List D) (R : D → List D → Prop) : Prop := ∀ (σ : L2.St) (F H : Hp) (p : Addr), MSt p F H acc → Sl σ F δ → σ[0]? = some (some (.ref p)) → ∀ Q : VK,
  (∀ v F' H' d acc', MExt p F H F' H' → MSt p F' H' acc' → Rp F' v d → R d acc' → Q v H') → te σ H Q
def EvMT (tt : TT) (δ : DE) (acc : List D) (R : Bool → List D → Prop) : Prop := ∀ (σ : L2.St) (F H : Hp) (p : Addr), MSt p F H acc → Sl σ F δ → σ[0]? = some (some (.ref p)) → ∀ Q : Bool → Hp → Prop,
  (∀ b F' H' acc', MExt p F H F' H' → MSt p F' H' acc' → R b acc' → Q b H') → tt σ H Q
def EvMA (ta : TA) (δ : DE) (acc : List D) (R : List D → List D → Prop) : Prop := ∀ (σ : L2.St) (F H : Hp) (p : Addr), MSt p F H acc → Sl σ F δ → σ[0]? = some (some (.ref p)) → ∀ Q : List V → Hp → Prop,
  (∀ vs F' H' ds acc', MExt p F H F' H' → MSt p F' H' acc' → Rps F' vs ds → R ds acc' → Q vs H') → ta σ H Q
/-- a def whose first argument is the sack -/
def spM (S : List D → List D → (D → List D → Prop) → Prop) : Sp := fun vs H Q _ => ∃ p ws F acc ds R, vs = .ref p :: ws ∧ MSt p F H acc ∧ Rps F ws ds ∧ S ds acc R ∧
  ∀ v F' H' d acc', MExt p F H F' H' → MSt p F' H' acc' → Rp F' v d → R d acc' → Q v H'
section
variable {δ δ1 : DE} {acc : List D} {te ta tb : TE} {tt : TT} {r : R2} {R : D → List D → Prop} {K : PySem.W.Frag} {d : D}
theorem em_pure (h : EvD te δ d) (hr : R d acc) : EvM te δ acc R := fun σ F H p m hl hi Q q => h σ F H m.s hl Q fun v F' H' e r => q v F' H' d acc (MExt.of e m.ne) (m.ext e) r hr
theorem em_op {R1 : D → List D → Prop} (h1 : EvM ta δ acc R1) (h2 : ∀ x a, R1 x a → EvM tb δ a fun y a' => ∃ z, RvD r x y z ∧ R z a') : EvM (tOp r ta tb) δ acc R := fun σ F H p m hl hi Q q =>
  h1 σ F H p m hl hi _ fun v F1 H1 x a e1 m1 r1 c1 => h2 x a c1 σ F1 H1 p m1 (hl.mono e1.f) hi _ fun w F2 H2 y a2 e2 m2 r2 ⟨z, rv, c2⟩ => rv v w F2 H2 m2.s (r1.mono e2.f) r2 Q fun u F3 H3 e3 r3 =>
    q u F3 H3 z a2 ((e1.trans e2).trans (MExt.of e3 m2.ne)) (m2.ext e3) r3 c2
theorem ema_nil {R : List D → List D → Prop} (h : R [] acc) : EvMA tNil δ acc R := fun σ F H p m hl hi Q q => q [] F H [] acc (MExt.refl m.ne) m .nil h
theorem ema_cons {tr : TA} {R1 : D → List D → Prop} {R : List D → List D → Prop} (h1 : EvM te δ acc R1) (h2 : ∀ x a, R1 x a → EvMA tr δ a fun ds a' => R (x :: ds) a') : EvMA (tCons te tr) δ acc R := fun σ F H p m hl hi Q q =>
  h1 σ F H p m hl hi _ fun v F1 H1 x a e1 m1 r1 c1 => h2 x a c1 σ F1 H1 p m1 (hl.mono e1.f) hi _ fun vs F2 H2 ds a2 e2 m2 r2 c2 => q (v :: vs) F2 H2 (x :: ds) a2 (e1.trans e2) m2 (.cons (r1.mono e2.f) r2) c2
theorem ema_pure {ta : TA} {ds : List D} {R : List D → List D → Prop} (h : EvA ta δ ds) (hr : R ds acc) : EvMA ta δ acc R := fun σ F H p m hl hi Q q => h σ F H m.s hl Q fun v F' H' e r => q v F' H' ds acc (MExt.of e m.ne) (m.ext e) r hr
theorem em_cb {rc : List V → Hp → VK → Prop} {t : TA} (h : EvMA t δ acc fun ds a => ∃ z, RcD rc ds z ∧ R z a) : EvM (tCB rc t) δ acc R := fun σ F H p m hl hi Q q =>
  h σ F H p m hl hi _ fun vs F1 H1 ds a e1 m1 r1 ⟨z, rc, c⟩ => rc vs F1 H1 m1.s r1 Q fun u F3 H3 e3 r3 => q u F3 H3 z a (e1.trans (MExt.of e3 m1.ne)) (m1.ext e3) r3 c
theorem em_tup {t : TA} (h : EvMA t δ acc fun ds a => ds.length ≤ sizeLine ∧ R (.tuple ds) a) : EvM (tTup t) δ acc R := fun σ F H p m hl hi Q q =>
  h σ F H p m hl hi _ fun vs F1 H1 ds a e1 m1 r1 ⟨z, c⟩ => ⟨by rw [r1.length]; exact z, fun b hb =>
    have x := Ext.new (o := .tup vs) m1.s hb
    q _ (upd F1 b (.tup vs)) _ (.tuple ds) a (e1.trans (MExt.of x m1.ne)) (m1.ext x) (.tup upd_same (r1.mono x.f)) c⟩
theorem em_call {S : List D → List D → (D → List D → Prop) → Prop} {t : TA} {E : XK} (h : EvMA t δ acc fun ds a => S ds a R) : EvM (tCall (spM S) [] E (tCons (tVar 0) t)) δ acc R := fun σ F H p m hl hi Q q =>
  ⟨.ref p, hi, h σ F H p m hl hi _ fun vs F1 H1 ds a e1 m1 r1 c => by
    show spM S (.ref p :: vs ++ []) H1 Q E
    rw [List.append_nil]
    exact ⟨p, vs, F1, a, ds, R, rfl, m1, r1, c, fun v F' H' d a' e2 m2 r2 c2 => q v F' H' d a' (e1.trans e2) m2 r2 c2⟩⟩
theorem em_andV {a b : Bool} {R1 : D → List D → Prop} (h1 : EvM ta δ acc fun d a' => d = .bool true ∧ R1 d a') (h2 : ∀ a', R1 (.bool true) a' → EvM tb δ a' R) : EvM (tAndV ta tb) δ acc R := fun σ F H p m hl hi Q q =>
  h1 σ F H p m hl hi _ fun v F1 H1 x a e1 m1 r1 ⟨hx, c1⟩ => by
    subst hx
    refine ⟨true, r1.bl_of, ?_⟩
    rw [if_pos rfl]
    exact h2 a c1 σ F1 H1 p m1 (hl.mono e1.f) hi Q fun u F2 H2 y a2 e2 m2 r2 c2 => q u F2 H2 y a2 (e1.trans e2) m2 r2 c2
theorem emt_test {R : Bool → List D → Prop} (h : EvM te δ acc fun d a => ∃ b, d = .bool b ∧ R b a) : EvMT (tTest te) δ acc R := fun σ F H p m hl hi Q q =>
  h σ F H p m hl hi _ fun v F1 H1 x a e1 m1 r1 ⟨b, hx, c⟩ => by
    subst hx
    exact ⟨b, r1.bl_of, q b F1 H1 a e1 m1 c⟩
theorem emt_pure {b : Bool} {R : Bool → List D → Prop} (h : EvT tt δ b) (hr : R b acc) : EvMT tt δ acc R := fun σ F H p m hl hi Q q => h σ F H m.s hl Q fun F' H' e => q b F' H' acc (MExt.of e m.ne) (m.ext e) hr

/-! the sack read as data for a while: only ints come out -/
theorem em_frz {n : Int} (h0 : 0 < δ.length) (h : EvD te (δ.set 0 (some (.list acc))) (.int n)) (hr : R (.int n) acc) : EvM te δ acc R := fun σ F H p m hl hi Q q => by
  obtain ⟨vs, hp, rp⟩ := m.l
  have hil : 0 < σ.length := (List.getElem?_eq_some_iff.mp hi).1
  have r1 : Rp (upd F p (.lst vs)) (.ref p) (.list acc) := .lst upd_same (rp.mono (same_upd m.f))
  have es : σ.set 0 (some (.ref p)) = σ := by
    refine List.ext_getElem? fun k => ?_
    by_cases hk : 0 = k
    · subst hk
      rw [List.getElem?_set_self hil, hi]
    · rw [List.getElem?_set_ne hk]
  have l1 := (hl.mono (same_upd (o := .lst vs) m.f)).set r1 0
  rw [es] at l1
  have s1 : Same (upd F p (.lst vs)) H := fun b o e => by
    by_cases hb : b = p
    · subst hb
      rw [upd_same] at e
      rw [hp]
      exact e
    · rw [upd_ne hb] at e
      exact m.s b o e
  refine h σ (upd F p (.lst vs)) H s1 l1 Q fun v F2 H2 e2 r2 => ?_
  have hv := r2.int_of
  subst hv
  -- the view without the sack
  have fF : Same F (fun b => if b = p then none else F2 b) := fun b o e => by
    have hb : b ≠ p := fun z => by rw [z, m.f] at e; cases e
    show (if b = p then none else F2 b) = some o
    rw [if_neg hb]
    exact e2.f b o (by rw [upd_ne hb]; exact e)
  have pf : (fun b => if b = p then none else F2 b) p = none := if_pos rfl
  refine q _ (fun b => if b = p then none else F2 b) H2 (.int n) acc ⟨fun b hb o e => e2.h b o e, fF, fun b hb => ?_, Same.some_of e2.h (by rw [hp]; exact fun z => nomatch z)⟩ ⟨pf, fun b o e => ?_, vs, e2.h _ _ hp, rp.mono fF⟩ (.int n) hr
  · by_cases hbp : b = p
    · subst hbp
      rw [m.f]
      exact pf
    · show (if b = p then none else F2 b) = F b
      rw [if_neg hbp, e2.n b hb, upd_ne hbp]
  · by_cases hbp : b = p
    · subst hbp
      rw [if_pos rfl] at e
      cases e
    · have e' : F2 b = some o := by
        rw [if_neg hbp] at e
        exact e
      exact e2.s b o e'

/-! statements -/
variable {N B C M : DE → List D → Prop} {Rr : D → List D → Prop} {t u : TS} {g : TG} {js : List Nat}
theorem wm_asgM (h : EvM te δ acc fun d a => ∃ js δ1, AsgD g d js δ δ1 ∧ 0 ∉ js ∧ N δ1 a) : WM 0 (tAsg te g) δ acc N B C Rr := fun σ F H p m hl hi E n b c r =>
  h σ F H p m hl hi _ fun v F1 H1 d a e1 m1 r1 ⟨js, δ1, ha, hj, hn⟩ => ha v σ F1 H1 m1.s (hl.mono e1.f) r1 _ fun σ1 l1 o1 => n σ1 F1 H1 δ1 a e1 m1 l1 (by rw [o1.2 0 hj]; exact hi) hn
theorem wm_setM {k : Nat} (hk : 0 ≠ k) (h : EvM te δ acc fun d a => N (δ.set k (some d)) a) : WM 0 (tAsg te (gName k)) δ acc N B C Rr :=
  wm_asgM fun σ F H p m hl hi Q q => h σ F H p m hl hi Q fun v F' H' d a e m' r c => q v F' H' d a e m' r ⟨[k], _, as_name, fun z => hk (List.mem_singleton.mp z), c⟩
theorem wm_parM {k l : Nat} {ta : TA} (hk : 0 ≠ k) (hl' : 0 ≠ l) (h : EvMA ta δ acc fun ds a => ∃ d1 d2, ds = [d1, d2] ∧ N ((δ.set k (some d1)).set l (some d2)) a) : WM 0 (tPar k l ta) δ acc N B C Rr := fun σ F H p m hl hi E n b c r =>
  h σ F H p m hl hi _ fun vs F1 H1 ds a e1 m1 r1 ⟨d1, d2, hd, hn⟩ => by
    subst hd
    obtain ⟨v, w, rfl, r2, r3⟩ := rps2 r1
    exact ⟨v, w, rfl, n _ F1 H1 _ a e1 m1 (((hl.mono e1.f).set r2 k).set r3 l) (by rw [List.getElem?_set_ne (Ne.symm hl'), List.getElem?_set_ne (Ne.symm hk)]; exact hi) hn⟩
theorem wm_ifM {c : TT} (h : EvMT c δ acc fun b a => (b = true → WM 0 t δ a N B C Rr) ∧ (b = false → WM 0 u δ a N B C Rr)) : WM 0 (tIfS c t u) δ acc N B C Rr := fun σ F H p m hl hi E n bk ct r =>
  h σ F H p m hl hi _ fun b F1 H1 a e1 m1 hw => by
    have back : ∀ {t : TS}, WM 0 t δ a N B C Rr → t E σ H1 := fun w => w σ F1 H1 p m1 (hl.mono e1.f) hi E (fun σ2 F2 H2 δ2 a2 e2 m2 l2 k2 y => n σ2 F2 H2 δ2 a2 (e1.trans e2) m2 l2 k2 y)
      (fun σ2 F2 H2 δ2 a2 e2 m2 l2 k2 y => bk σ2 F2 H2 δ2 a2 (e1.trans e2) m2 l2 k2 y) (fun σ2 F2 H2 δ2 a2 e2 m2 l2 k2 y => ct σ2 F2 H2 δ2 a2 (e1.trans e2) m2 l2 k2 y)
      fun v F2 H2 d a2 e2 m2 q y => r v F2 H2 d a2 (e1.trans e2) m2 q y
    cases b with
    | true =>
      rw [if_pos rfl]
      exact back (hw.1 rfl)
    | false =>
      rw [if_neg Bool.false_ne_true]
      exact back (hw.2 rfl)
theorem wm_retM (h : EvM te δ acc Rr) : WM 0 (tRet te) δ acc N B C Rr := fun σ F H p m hl hi E n b c r => h σ F H p m hl hi _ fun v F1 H1 d a e1 m1 r1 c1 => r v F1 H1 d a e1 m1 r1 c1
theorem wm_pure {Rd : D → Prop} (h : W t δ no no no Rd) (hr : ∀ d, Rd d → Rr d acc) : WM 0 t δ acc N B C Rr := fun σ F H p m hl hi E n b c r =>
  h σ F H m.s hl E (fun _ _ _ _ _ _ x => x.elim) (fun _ _ _ _ _ _ x => x.elim) (fun _ _ _ _ _ _ x => x.elim) fun v F' H' d e rp x => r v F' H' d acc (MExt.of e m.ne) (m.ext e) rp (hr d x)
/-- sack[j] = n -/
theorem wm_put {j : Nat} {n : Int} (h0 : 0 < δ.length) (h : EvD te (δ.set 0 (some (.list acc))) (.int n)) (hj : j < acc.length) (hn : N δ (acc.set j (.int n))) : WM 0 (tAsg te (gSub (tVar 0) (tC (.int (j : Int))) rSetL)) δ acc N B C Rr := fun σ F H p m hl hi E nx b c r =>
  em_frz (R := fun d a => d = .int n ∧ a = acc) h0 h ⟨rfl, rfl⟩ σ F H p m hl hi _ fun v F1 H1 d a e1 m1 r1 ⟨hd, ha⟩ => by
    subst hd ha
    have hv := r1.int_of
    subst hv
    obtain ⟨vs, hp, rp⟩ := m1.l
    have hjl : j < vs.length := by rw [rp.length]; exact hj
    refine ⟨.ref p, hi, p, vs, (j : Int), j, rfl, rfl, hp, ixN_of hjl, ?_⟩
    have rset : ∀ (vs : List V) (ds : List D) (j : Nat), Rps F1 vs ds → Rps F1 (vs.set j (.int n)) (ds.set j (.int n)) := by
      intro vs ds j h
      induction ds generalizing vs j with
      | nil => cases h; exact .nil
      | cons d ds ih =>
        cases h with
        | cons h1 h2 =>
          cases j with
          | zero => exact .cons (.int n) h2
          | succ j => exact .cons h1 (ih _ _ h2)
    obtain ⟨m2, e2⟩ := m1.put (rset vs _ j rp)
    exact nx σ F1 _ δ _ (e1.trans e2) m2 (hl.mono e1.f) hi hn
theorem wm_frz {k : Nat} {n : Int} (h0 : 0 < δ.length) (hk : 0 ≠ k) (h : EvD te (δ.set 0 (some (.list acc))) (.int n)) (hn : N (δ.set k (some (.int n))) acc) : WM 0 (tAsg te (gName k)) δ acc N B C Rr := wm_setM hk (em_frz h0 h hn)
theorem et_frz {b : Bool} (h0 : 0 < δ.length) {R : Bool → List D → Prop} {i j : Int} {rc : R2} {tb : TE} (h1 : EvD ta (δ.set 0 (some (.list acc))) (.int i)) (h2 : EvD tb δ (.int j)) (hr : RvD rc (.int i) (.int j) (.bool b)) (hR : R b acc) : EvMT (tTest (tOp rc ta tb)) δ acc R :=
  emt_test (em_op (R1 := fun d a => d = .int i ∧ a = acc) (em_frz h0 h1 ⟨rfl, rfl⟩) fun x a hxa => by
    obtain ⟨rfl, rfl⟩ := hxa
    exact em_pure h2 ⟨.bool b, hr, b, rfl, hR⟩)

/-! a comprehension whose test changes the sack -/
theorem em_lc {α : Type} {wi : TI} {vs : List Nat} (xs : List α) (em : α → D) (f : α → D) (js : List Nat) (ex : α → DE) (I : Nat → List D → Prop) (hi : EvI wi δ (xs.map em)) (hz : xs.length < sizeLine) (hj : ∀ j ∈ js, j ∈ vs) (h0 : 0 ∉ vs) (hI : I 0 acc)
    (ha : ∀ x ∈ xs, AsgD g (em x) js (wipeD δ vs) (ex x)) (ht : ∀ i x a, xs[i]? = some x → I i a → EvMT tt (ex x) a fun _ a' => I (i + 1) a') (he : ∀ x ∈ xs, EvD te (ex x) (f x))
    (hR : ∀ ys a, List.Sublist ys xs → I xs.length a → R (.list (ys.map f)) a) : EvM (tLc wi g tt te vs) δ acc R := by
  intro σ F H p ms hl hip Q q
  refine hi σ F H ms.s hl _ fun J F1 H1 G e1 g1 gv D hD => ?_
  have hlen : (xs.map em).length = xs.length := List.length_map _
  have x1 := MExt.of e1 ms.ne
  have ms1 := ms.ext e1
  have hpD : p ≠ D := fun z => ms1.ne (z ▸ hD)
  have hwp : (L2.wipe σ vs)[0]? = some (some (.ref p)) := by
    rw [wipe_get, if_neg fun z => h0 z.1]
    exact hip
  have mD : MSt p F1 (upd H1 D (.lst [])) acc := by
    obtain ⟨ws, h, r⟩ := ms1.l
    exact ⟨ms1.f, fun b o e => same_upd hD _ _ (ms1.s _ _ e), ws, by rw [upd_ne hpD]; exact h, r⟩
  refine ⟨fun i m H2 => m = xs.length - i ∧ i ≤ xs.length ∧ ∃ F2 l a ys, MExt p F1 H1 F2 H2 ∧ MSt p F2 H2 a ∧ F2 D = none ∧ H2 D = some (.lst l) ∧ Rps F2 l (ys.map f) ∧ List.Sublist ys (xs.take i) ∧ I i a,
    ⟨xs.length, by omega, Nat.zero_le _, F1, [], acc, [], ⟨fun b hb o e => same_upd hD _ _ e, Same.refl _, fun _ _ => rfl, mD.ne⟩, mD, same_none ms1.s hD, upd_same, .nil, List.nil_sublist _, hI⟩, ?_⟩
  rintro i m H2 ⟨rfl, hi2, F2, l, a, ys, e2, m2, fD, hDl, rl, sub, hIi⟩
  have g2 : G F2 := gv.mono _ _ e2.f g1
  by_cases hlt : i < xs.length
  · refine .inr ⟨gv.go i F2 H2 m2.s g2 (by rw [hlen]; exact hlt), fun H3 => ∃ F3 l a ys, MExt p F1 H1 F3 H3 ∧ MSt p F3 H3 a ∧ F3 D = none ∧ H3 D = some (.lst l) ∧ Rps F3 l (ys.map f) ∧ List.Sublist ys (xs.take (i + 1)) ∧ I (i + 1) a,
      fun H3 ⟨F3, w⟩ => ⟨xs.length - (i + 1), by omega, rfl, hlt, F3, w⟩, fun x H3 y => ?_⟩
    obtain ⟨F3, d, e3, hd, rd⟩ := gv.yld i F2 H2 x H3 m2.s g2 (by rw [hlen]; exact hlt) y
    have hx : xs[i]? = some xs[i] := List.getElem?_eq_getElem hlt
    have hm : xs[i] ∈ xs := List.getElem_mem hlt
    have hd' : d = em xs[i] := by
      rw [List.getElem?_map, hx] at hd
      exact (Option.some.inj hd).symm
    subst hd'
    have slw : Sl (L2.wipe σ vs) F3 (wipeD δ vs) := ((hl.mono e1.f).wipe vs).mono (e2.f.trans e3.f)
    have m3 := m2.ext e3
    refine ha _ hm x _ F3 H3 e3.s slw rd _ fun σ2 sl2 k2 => ⟨wipe_back (k2.1.trans (L2.wipe_length σ vs)) hj k2.2, ?_⟩
    have hip2 : σ2[0]? = some (some (.ref p)) := by
      rw [k2.2 0 fun z => h0 (hj 0 z)]
      exact hwp
    refine ht i _ a hx hIi σ2 F3 H3 p m3 sl2 hip2 _ fun b F4 H4 a4 e4 m4 hI4 => ?_
    have take1 : xs.take (i + 1) = xs.take i ++ [xs[i]] := by
      rw [List.take_add_one, hx]
      rfl
    have e34 := (MExt.of e3 m2.ne).trans e4
    have hDl4 : H4 D = some (.lst l) := e34.h D (fun z => hpD z.symm) _ hDl
    have fD4 : F4 D = none := by
      rw [e34.n D (by rw [hDl]; exact fun z => nomatch z)]
      exact fD
    cases b with
    | false =>
      rw [if_neg Bool.false_ne_true]
      refine ⟨F4, l, a4, ys, e2.trans e34, m4, fD4, hDl4, rl.mono e34.f, ?_, hI4⟩
      rw [take1]
      exact sub.trans (List.sublist_append_left _ _)
    | true =>
      rw [if_pos rfl]
      refine he _ hm σ2 F4 H4 m4.s (sl2.mono e4.f) _ fun w F5 H5 e5 r5 => ?_
      have m5 := m4.ext e5
      have hDl5 := e5.h _ _ hDl4
      have fD5 : F5 D = none := by
        rw [e5.n D (by rw [hDl4]; exact fun z => nomatch z)]
        exact fD4
      have e35 := e34.trans (MExt.of e5 m4.ne)
      have ll : l.length < sizeLine := by
        rw [rl.length, List.length_map]
        have h1 := sub.length_le
        rw [List.length_take] at h1
        omega
      refine ⟨l, hDl5, ll, F5, l ++ [w], a4, ys ++ [xs[i]], ⟨fun b hb o e => ?_, e2.f.trans e35.f, fun b hb => (e35.n b (e2.some_of hb)).trans (e2.n b hb), by rw [upd_ne hpD]; exact m5.ne⟩, ⟨m5.f, fun b o e => ?_, ?_⟩, fD5, upd_same, ?_, ?_, hI4⟩
      · have hbD : b ≠ D := fun z => by rw [z, hD] at e; cases e
        rw [upd_ne hbD]
        exact e35.h b hb o (e2.h b hb o e)
      · have hbD : b ≠ D := fun z => by rw [z, fD5] at e; cases e
        rw [upd_ne hbD]
        exact m5.s _ _ e
      · obtain ⟨ws, h, r⟩ := m5.l
        exact ⟨ws, by rw [upd_ne hpD]; exact h, r⟩
      · rw [List.map_append]
        exact (rl.mono e35.f).append (.cons r5 .nil)
      · rw [take1]
        exact sub.append (List.Sublist.refl _)
  · have e : i = xs.length := by omega
    subst e
    refine .inl ⟨by have := gv.stop F2 H2 m2.s g2; rw [hlen] at this; exact this, ?_⟩
    rw [List.take_length] at sub
    -- the list made stays as data
    have sD : Same F2 (upd F2 D (.lst l)) := same_upd fD
    refine q (.ref D) (upd F2 D (.lst l)) H2 (.list (ys.map f)) a (x1.trans ⟨e2.h, e2.f.trans sD, fun b hb => ?_, e2.p⟩) ⟨by rw [upd_ne hpD]; exact m2.f, fun b o e => ?_, ?_⟩ (.lst upd_same (rl.mono sD)) (hR ys a sub hIi)
    · have hbD : b ≠ D := fun z => hb (z ▸ hD)
      rw [upd_ne hbD]
      exact e2.n b hb
    · by_cases hbD : b = D
      · subst hbD
        rw [upd_same] at e
        rw [hDl]
        exact e
      · rw [upd_ne hbD] at e
        exact m2.s b o e
    · obtain ⟨ws, h, r⟩ := m2.l
      exact ⟨ws, h, r.mono sD⟩
end
/-- a sack def's body, read -/
theorem bodyM_of {t : TS} {N : List Str} {vs : List V} {H : Hp} {Q : VK} {E : XK} {S : List D → List D → (D → List D → Prop) → Prop} (h : spM S vs H Q E)
    (w : ∀ ds acc R, S ds acc R → WM 0 t (none :: (startD N.length (.none :: ds)).tail) acc no2 no2 no2 R) : t { nx := fun _ H' => Q .non H', rt := Q } (L2.start N vs) H := by
  obtain ⟨p, ws, F, acc, ds, R, rfl, m, rs, hs, q⟩ := h
  have sl : Sl (L2.start N (.ref p :: ws)) F (none :: (startD N.length (.none :: ds)).tail) := by
    refine ⟨?_, fun i d hd => ?_⟩
    · unfold L2.start startD
      simp only [List.map_cons, List.cons_append, List.tail_cons, List.length_cons, List.length_append, List.length_map, List.length_replicate, rs.length]
    · cases i with
      | zero => cases hd
      | succ i =>
        have r2 : Rps F (.non :: ws) (.none :: ds) := .cons .non rs
        obtain ⟨v, h1, h2⟩ := (sl_start (N := N) r2).2 (i + 1) d (by unfold startD at hd ⊢; simpa using hd)
        refine ⟨v, ?_, h2⟩
        unfold L2.start at h1 ⊢
        simpa using h1
  refine w ds acc R hs (L2.start N (.ref p :: ws)) F H p m sl ?_ _ (fun _ _ _ _ _ _ _ _ _ x => x.elim) (fun _ _ _ _ _ _ _ _ _ x => x.elim) (fun _ _ _ _ _ _ _ _ _ x => x.elim) fun v F' H' d a e m' r x => q v F' H' d a e m' r x
  unfold L2.start
  simp
end LD
/-! Specs2: what each def of the law makes of its arguments. -/
namespace LD
open PySem PySem.Spec PyProof.Rows L2 LM
/-- a sack after so many draws -/
def SackOk (n : Nat) (acc : List D) : Prop := ∃ a b c : Nat, acc = [.int (a : Int), .int (b : Int), .int (c : Int)] ∧ b < 10000000000000000000000000000000000000 ∧ c ≤ n
theorem SackOk.mono {n m : Nat} {acc : List D} (h : SackOk n acc) (hm : n ≤ m) : SackOk m acc := by
  obtain ⟨a, b, c, e, h1, h2⟩ := h
  exact ⟨a, b, c, e, h1, by omega⟩
abbrev SM := List D → List D → (D → List D → Prop) → Prop
def S_z_pick : SM := fun ds acc R => ∃ many n : Nat, ds = [.int (many : Int)] ∧ 0 < many ∧ many < 1000000000 ∧ n < 1000000 ∧ SackOk n acc ∧ ∀ (k : Nat) a, k < many → SackOk (n + 1) a → R (.int (k : Int)) a
def S_z_length : SM := fun ds acc R => ∃ most n : Nat, ds = [.int (most : Int)] ∧ (most = 6 ∨ most = 12) ∧ n < 1000000 ∧ SackOk n acc ∧ ∀ (k : Nat) a, 0 < k → k ≤ most → SackOk (n + 1) a → R (.int (k : Int)) a
def S_z_set : SM := fun ds acc R => ∃ most n : Nat, ds = [.int (most : Int)] ∧ (most = 6 ∨ most = 12) ∧ n < 900000 ∧ SackOk n acc ∧ ∀ s a, SetFit s 8 12 → SackOk (n + 50) a → R (setD s) a
def S_z_set_wide : SM := fun ds acc R => ∃ (s : DSet) (n : Nat), ds = [setD s, .int 24] ∧ SetFit s 8 12 ∧ n < 900000 ∧ SackOk n acc ∧ ∀ t a, SetFit t 15 24 → SackOk (n + 50) a → R (setD t) a
def S_z_sums_right : List D → D → Prop := fun ds r => ∃ s t, ds = [setD s, setD t] ∧ SetFit s 8 12 ∧ SetFit t 15 24 ∧ r = .bool true
def S_z_turned_right : List D → D → Prop := fun ds r => ∃ s t, ds = [setD s, setD t] ∧ SetFit s 8 12 ∧ SetFit t 15 24 ∧ r = .bool true
def S_z_moved_right : SM := fun ds acc R => ∃ (s : DSet) (n : Nat), ds = [setD s] ∧ SetFit s 8 12 ∧ n < 900000 ∧ SackOk n acc ∧ ∀ a, R (.bool true) a
def S_z_right : SM := fun ds acc R => ds = [] ∧ SackOk 0 acc ∧ ∀ a, R (.bool true) a
abbrev sp_z_pick : Sp := spM S_z_pick
abbrev sp_z_length : Sp := spM S_z_length
abbrev sp_z_set : Sp := spM S_z_set
abbrev sp_z_set_wide : Sp := spM S_z_set_wide
abbrev sp_z_sums_right : Sp := spR S_z_sums_right
abbrev sp_z_turned_right : Sp := spR S_z_turned_right
abbrev sp_z_moved_right : Sp := spM S_z_moved_right
abbrev sp_z_right : Sp := spM S_z_right
/-- a new sack from the script -/
def sp_z_sack (K : PySem.W.Frag) : Sp := fun vs H Q _ => ∃ (a : Addr) (ns : List Int) (i : Nat), vs = [.ref a, .int (i : Int)] ∧ SqL K H a (ns.map V.int) ∧ i < 1000 ∧
  ∀ p (x y : Nat) H', Same H H' → H' p = none → y < 10000000000000000000000000000000000000 → Q (.ref p) (upd H' p (.lst [.int (x : Int), .int (y : Int), .int 0]))
def sp_law (K : PySem.W.Frag) : Sp := fun vs H Q _ => ∃ (a : Addr) (ns : List Int), vs = [.ref a] ∧ SqL K H a (ns.map V.int) ∧ ∀ H', Q (.bl true) H'
end LD
/-! Rd2: the readings of the law's defs (printed by gen.py). -/
namespace LD
open PySem PySem.Spec PyProof.Rows L2
/-- the reading of _law_dl_sack -/
def t_z_sack (K : PySem.W.Frag) : TS :=
  (tSeq (tAsg (tIf (tTest (tOp rLt (tVar 1) (tCB (rLenQ K) (tCons (tVar 0) tNil)))) (tOp (rIxL K) (tVar 0) (tVar 1)) (tC (.int 0))) (gName 2))
    (tRet (tLst (tCons (tCB rMax2 (tCons (tC (.int 0)) (tCons (tOp rSub (tCB rAbs (tCons (tVar 2) tNil)) (tOp rPowW (tC (.int 10)) (tC (.int 18)))) tNil))) (tCons (tOp rMod (tCB rInt1 (tCons (tOp rAdd (tOp rAdd (tOp rMul (tVar 2) (tC (.int 39119))) (tOp rMul (tVar 1) (tC (.int 8675309)))) (tC (.int 7919))) tNil)) (tOp rAdd (tOp rPowW (tC (.int 10)) (tC (.int 36))) (tC (.int 67)))) (tCons (tC (.int 0)) tNil))))))
/-- the reading of _law_dl_pick -/
def t_z_pick (K : PySem.W.Frag) : TS :=
  (tSeq (tIfS (tTest (tOp rGt (tOp (rIxL K) (tVar 0) (tC (.int 0))) (tC (.int 1)))) (tSeq (tAsg (tOp rMod (tCB rInt1 (tCons (tOp (rIxL K) (tVar 0) (tC (.int 0))) tNil)) (tVar 1)) (gName 2))
    (tSeq (tAsg (tOp rDiv (tOp (rIxL K) (tVar 0) (tC (.int 0))) (tVar 1)) (gSub (tVar 0) (tC (.int 0)) rSetL))
    (tRet (tVar 2)))) tNext)
    (tSeq (tAsg (tOp rAdd (tOp (rIxL K) (tVar 0) (tC (.int 2))) (tC (.int 1))) (gSub (tVar 0) (tC (.int 2)) rSetL))
    (tSeq (tAsg (tOp rMod (tOp rPowW (tCB rInt1 (tCons (tOp rAdd (tOp (rIxL K) (tVar 0) (tC (.int 1))) (tOp rMul (tC (.int 1500450271)) (tOp (rIxL K) (tVar 0) (tC (.int 2))))) tNil)) (tC (.int 3))) (tOp rAdd (tOp rPowW (tC (.int 10)) (tC (.int 40))) (tC (.int 121)))) (gName 3))
    (tSeq (tAsg (tOp rMod (tOp rPowW (tCB rInt1 (tCons (tOp rAdd (tVar 3) (tOp rMul (tC (.int 32416190071)) (tOp (rIxL K) (tVar 0) (tC (.int 2))))) tNil)) (tC (.int 2))) (tOp rAdd (tOp rPowW (tC (.int 10)) (tC (.int 36))) (tC (.int 67)))) (gName 3))
    (tRet (tOp rMod (tCB rInt1 (tCons (tOp rDiv (tVar 3) (tC (.int 4096))) tNil)) (tVar 1)))))))
/-- the reading of _law_dl_length -/
def t_z_length (K : PySem.W.Frag) : TS :=
  (tSeq (tAsg (tLst (tCons (tC (.int 6)) (tCons (tC (.int 4)) (tCons (tC (.int 3)) (tCons (tC (.int 2)) (tCons (tC (.int 1)) (tCons (tC (.int 5)) (tCons (tC (.int 12)) (tCons (tC (.int 8)) (tCons (tC (.int 9)) (tCons (tC (.int 7)) (tCons (tC (.int 10)) (tCons (tC (.int 11)) (tCons (tC (.int 13)) (tCons (tC (.int 17)) (tCons (tC (.int 25)) (tCons (tC (.int 31)) (tCons (tC (.int 34)) (tCons (tC (.int 49)) (tCons (tC (.int 53)) (tCons (tC (.int 59)) (tCons (tC (.int 60)) tNil)))))))))))))))))))))) (gName 2))
    (tSeq (tAsg (tLc (iList K (tVar 2)) (gName 3) (tTest (tOp rLe (tVar 3) (tVar 1))) (tVar 3) [3]) (gName 2))
    (tRet (tOp (rIxL K) (tVar 2) (tCall sp_z_pick [] E0 (tCons (tVar 0) (tCons (tCB (rLenQ K) (tCons (tVar 2) tNil)) tNil)))))))
/-- the reading of _law_dl_set -/
def t_z_set (K : PySem.W.Frag) : TS :=
  (tSeq (tPar 2 3 (tCons (tCall sp_z_pick [] E0 (tCons (tVar 0) (tCons (tOp (rIxL K) (tLst (tCons (tC (.int 1)) (tCons (tC (.int 4)) (tCons (tC (.int 9)) tNil)))) (tCall sp_z_pick [] E0 (tCons (tVar 0) (tCons (tC (.int 3)) tNil)))) tNil))) (tCons (tCall sp_z_length [] E0 (tCons (tVar 0) (tCons (tVar 1) tNil))) tNil)))
    (tSeq (tAsg (tOp rAdd (tC (.int 1)) (tCall sp_z_pick [] E0 (tCons (tVar 0) (tCons (tC (.int 4)) tNil)))) (gName 4))
    (tSeq (tAsg (tLc (iRng1 (tCons (tVar 2) tNil)) (gName 6) (tTest (tOp rEq (tCall sp_z_pick [] E0 (tCons (tVar 0) (tCons (tOp rAdd (tVar 4) (tC (.int 1))) tNil))) (tC (.int 0)))) (tVar 6) [6]) (gName 5))
    (tSeq (tAsg (tLc (iRng1 (tCons (tVar 3) tNil)) (gName 8) (tTest (tOp rEq (tCall sp_z_pick [] E0 (tCons (tVar 0) (tCons (tOp rAdd (tVar 4) (tC (.int 1))) tNil))) (tC (.int 0)))) (tVar 8) [8]) (gName 7))
    (tSeq (tIfS (tTest (tOp rEq (tCall sp_z_pick [] E0 (tCons (tVar 0) (tCons (tC (.int 8)) tNil))) (tC (.int 0)))) (tAsg (tLst tNil) (gName 7)) tNext)
    (tRet (tTup (tCons (tVar 5) (tCons (tVar 2) (tCons (tVar 3) (tCons (tVar 7) tNil)))))))))))
/-- the reading of _law_dl_set_wide -/
def t_z_set_wide (K : PySem.W.Frag) : TS :=
  (tSeq (tAsg (tVar 1) (gTup K 4 (gCons (gName 3) (gCons (gName 4) (gCons (gName 5) (gCons (gName 6) gNil))))))
    (tSeq (tAsg (tCB rMax2 (tCons (tC (.int 1)) (tCons (tOp rDiv (tVar 2) (tVar 5)) tNil))) (gName 7))
    (tSeq (tAsg (tOp rCat (tOp rRep (tLst (tCons (tC (.int 3)) tNil)) (tC (.int 7))) (tLst (tCons (tVar 7) tNil))) (gName 8))
    (tSeq (tAsg (tCB rMin2 (tCons (tVar 7) (tCons (tOp rAdd (tC (.int 1)) (tCall sp_z_pick [] E0 (tCons (tVar 0) (tCons (tOp (rIxL K) (tVar 8) (tCall sp_z_pick [] E0 (tCons (tVar 0) (tCons (tC (.int 8)) tNil)))) tNil)))) tNil))) (gName 9))
    (tSeq (tAsg (tTup (tCons (tOp rAdd (tVar 4) (tCall sp_z_pick [] E0 (tCons (tVar 0) (tCons (tC (.int 8)) tNil)))) (tCons (tOp rMul (tVar 5) (tVar 9)) tNil))) (gTup K 2 (gCons (gName 10) (gCons (gName 11) gNil))))
    (tSeq (tAsg (tLc (iRng1 (tCons (tVar 10) tNil)) (gName 13) (tB (tCall sp_z_has [] E0 (tCons (tVar 1) (tCons (tVar 13) tNil)))) (tVar 13) [13]) (gName 12))
    (tRet (tTup (tCons (tVar 12) (tCons (tVar 10) (tCons (tVar 11) (tCons (tLc (iRng1 (tCons (tVar 11) tNil)) (gName 14) (tB (tCall sp_z_has [] E0 (tCons (tVar 1) (tCons (tOp rAdd (tVar 10) (tVar 14)) tNil)))) (tVar 14) [14]) tNil))))))))))))
/-- the reading of _law_dl_sums_right -/
def t_z_sums_right (K : PySem.W.Frag) : TS :=
  (tSeq (tAsg (tTup (tCons (tLst tNil) (tCons (tLst (tCons (tC (.int 0)) tNil)) (tCons (tC (.int 1)) tNil)))) (gName 2))
    (tSeq (tPar 3 4 (tCons (tLst (tCons (tCall sp_counts [] E0 (tCons (tVar 0) tNil)) (tCons (tCall sp_counts [] E0 (tCons (tVar 1) tNil)) tNil))) (tCons (tLst (tCons (tCall sp_but [] E0 (tCons (tVar 0) (tCons (tVar 1) tNil))) (tCons (tCall sp_but [] E0 (tCons (tVar 1) (tCons (tVar 0) tNil))) tNil))) tNil)))
    (tSeq (tPar 5 6 (tCons (tCall sp_both [] E0 (tCons (tVar 0) (tCons (tVar 1) tNil))) (tCons (tCall sp_either [] E0 (tCons (tVar 0) (tCons (tVar 1) tNil))) tNil)))
    (tSeq (tIfS (tTest (tOp rNe (tCB (rRepr K) (tCons (tCall sp_plus [] E0 (tCons (tCall sp_counts [] E0 (tCons (tVar 6) tNil)) (tCons (tCall sp_counts [] E0 (tCons (tVar 5) tNil)) tNil))) tNil)) (tCB (rRepr K) (tCons (tCall sp_plus [] E0 (tCons (tOp (rIxL K) (tVar 3) (tC (.int 0))) (tCons (tOp (rIxL K) (tVar 3) (tC (.int 1))) tNil))) tNil)))) (tRet (tC (.bl false))) tNext)
    (tSeq (tFor (iEnum K (tCons (tLst (tCons (tVar 0) (tCons (tVar 1) tNil))) tNil)) (gTup K 2 (gCons (gName 7) (gCons (gName 8) gNil)))
    (tSeq (tIfS (tTest (tOp rNe (tCB (rRepr K) (tCons (tCall sp_plus [] E0 (tCons (tCall sp_counts [] E0 (tCons (tOp (rIxL K) (tVar 4) (tVar 7)) tNil)) (tCons (tCall sp_counts [] E0 (tCons (tVar 5) tNil)) tNil))) tNil)) (tCB (rRepr K) (tCons (tOp (rIxL K) (tVar 3) (tVar 7)) tNil)))) (tRet (tC (.bl false))) tNext)
    (tSeq (tIfS (tTest (tOp rNe (tCB (rRepr K) (tCons (tCall sp_plus [] E0 (tCons (tOp (rIxL K) (tVar 3) (tVar 7)) (tCons (tCall sp_counts [] E0 (tCons (tCall sp_others [] E0 (tCons (tVar 8) tNil)) tNil)) tNil))) tNil)) (tCB (rRepr K) (tCons (tVar 2) tNil)))) (tRet (tC (.bl false))) tNext)
    (tSeq (tAsg (tCall sp_least_set [] E0 (tCons (tVar 8) tNil)) (gName 9))
    (tIfS (tTest (tOp rNe (tCB (rRepr K) (tCons (tLst (tCons (tCall sp_others [] E0 (tCons (tCall sp_others [] E0 (tCons (tVar 8) tNil)) tNil)) (tCons (tCall sp_either [] E0 (tCons (tVar 5) (tCons (tOp (rIxL K) (tVar 4) (tVar 7)) tNil))) tNil))) tNil)) (tCB (rRepr K) (tCons (tLst (tCons (tVar 9) (tCons (tVar 9) tNil))) tNil)))) (tRet (tC (.bl false))) tNext)))))
    (tSeq (tIfS (tOr (tB (tNotN (tCall sp_first_less [] E0 (tCons (tOp (rIxL K) (tVar 3) (tC (.int 0))) (tCons (tCall sp_counts [] E0 (tCons (tVar 5) tNil)) tNil))))) (tB (tNotN (tCall sp_first_less [] E0 (tCons (tCall sp_counts [] E0 (tCons (tVar 6) tNil)) (tCons (tOp (rIxL K) (tVar 3) (tC (.int 1))) tNil)))))) (tRet (tC (.bl false))) tNext)
    (tRet (tOp rEq (tCB (rRepr K) (tCons (tLst (tCons (tCall sp_least_set [] E0 (tCons (tVar 6) tNil)) (tCons (tCall sp_least_set [] E0 (tCons (tVar 5) tNil)) tNil))) tNil)) (tCB (rRepr K) (tCons (tLst (tCons (tVar 6) (tCons (tVar 5) tNil))) tNil))))))))))
/-- the reading of _law_dl_turned_right -/
def t_z_turned_right (K : PySem.W.Frag) : TS :=
  (tSeq (tAsg (tLst (tCons (tCall sp_others [] E0 (tCons (tVar 0) tNil)) (tCons (tCall sp_others [] E0 (tCons (tVar 1) tNil)) tNil))) (gName 2))
    (tSeq (tAsg (tLst (tCons (tCall sp_both [] E0 (tCons (tOp (rIxL K) (tVar 2) (tC (.int 0))) (tCons (tOp (rIxL K) (tVar 2) (tC (.int 1))) tNil))) (tCons (tCall sp_either [] E0 (tCons (tOp (rIxL K) (tVar 2) (tC (.int 1))) (tCons (tOp (rIxL K) (tVar 2) (tC (.int 0))) tNil))) tNil))) (gName 3))
    (tSeq (tIfS (tTest (tOp rNe (tCB (rRepr K) (tCons (tLst (tCons (tCall sp_others [] E0 (tCons (tCall sp_either [] E0 (tCons (tVar 0) (tCons (tVar 1) tNil))) tNil)) (tCons (tCall sp_others [] E0 (tCons (tCall sp_both [] E0 (tCons (tVar 0) (tCons (tVar 1) tNil))) tNil)) tNil))) tNil)) (tCB (rRepr K) (tCons (tVar 3) tNil)))) (tRet (tC (.bl false))) tNext)
    (tSeq (tIfS (tTest (tOp rNe (tCB (rRepr K) (tCons (tLst (tCons (tCall sp_but [] E0 (tCons (tVar 0) (tCons (tVar 1) tNil))) (tCons (tCall sp_but [] E0 (tCons (tOp (rIxL K) (tVar 2) (tC (.int 1))) (tCons (tOp (rIxL K) (tVar 2) (tC (.int 0))) tNil))) tNil))) tNil)) (tCB (rRepr K) (tCons (tLst (tCons (tCall sp_both [] E0 (tCons (tVar 0) (tCons (tOp (rIxL K) (tVar 2) (tC (.int 1))) tNil))) (tCons (tCall sp_but [] E0 (tCons (tVar 0) (tCons (tVar 1) tNil))) tNil))) tNil)))) (tRet (tC (.bl false))) tNext)
    (tSeq (tPar 4 5 (tCons (tCall sp_first_unlike [] E0 (tCons (tCall sp_counts [] E0 (tCons (tVar 0) tNil)) (tCons (tCall sp_counts [] E0 (tCons (tVar 1) tNil)) tNil))) (tCons (tCall sp_first_apart [] E0 (tCons (tVar 0) (tCons (tVar 1) tNil))) tNil)))
    (tSeq (tIfS (tTest (tOp rNe (tCB (rRepr K) (tCons (tVar 5) tNil)) (tCB (rRepr K) (tCons (tIf (tB (tIsN (tVar 4))) (tC .non) (tOp rSub (tVar 4) (tC (.int 1)))) tNil)))) (tRet (tC (.bl false))) tNext)
    (tSeq (tIfS (tTest (tOp rNe (tCall sp_alike [] E0 (tCons (tCall sp_counts [] E0 (tCons (tVar 0) tNil)) (tCons (tCall sp_counts [] E0 (tCons (tVar 1) tNil)) tNil))) (tOp rEq (tCB (rRepr K) (tCons (tCall sp_least_set [] E0 (tCons (tVar 0) tNil)) tNil)) (tCB (rRepr K) (tCons (tCall sp_least_set [] E0 (tCons (tVar 1) tNil)) tNil))))) (tRet (tC (.bl false))) tNext)
    (tRet (tOp rEq (tCB (rRepr K) (tCons (tCall sp_meeting [] E0 (tCons (tVar 0) (tCons (tVar 1) tNil))) tNil)) (tCB (rRepr K) (tCons (tCall sp_next_day [] E0 (tCons (tCall sp_both [] E0 (tCons (tVar 0) (tCons (tVar 1) tNil))) (tCons (tC (.int 0)) tNil))) tNil)))))))))))
/-- the reading of _law_dl_moved_right -/
def t_z_moved_right (K : PySem.W.Frag) : TS :=
  (tSeq (tAsg (tCall sp_z_pick [] E0 (tCons (tVar 0) (tCons (tC (.int 21)) tNil))) (gName 2))
    (tSeq (tPar 3 4 (tCons (tTup (tCons (tLst tNil) (tCons (tLst (tCons (tVar 2) tNil)) (tCons (tC (.int 1)) tNil)))) (tCons (tCall sp_counts [] E0 (tCons (tVar 1) tNil)) tNil)))
    (tSeq (tPar 5 6 (tCons (tCall sp_moved [] E0 (tCons (tVar 1) (tCons (tVar 2) tNil))) (tCons (tCall sp_moved [] E0 (tCons (tVar 1) (tCons (tOp rSub (tC (.int 0)) (tVar 2)) tNil))) tNil)))
    (tSeq (tIfS (tOr (tTest (tOp rNe (tCB (rRepr K) (tCons (tCall sp_joined [] E0 (tCons (tVar 3) (tCons (tCall sp_counts [] E0 (tCons (tVar 5) tNil)) tNil))) tNil)) (tCB (rRepr K) (tCons (tVar 4) tNil)))) (tTest (tOp rNe (tCall sp_value [] E0 (tCons (tCall sp_counts [] E0 (tCons (tVar 5) tNil)) (tCons (tVar 2) tNil))) (tC (.int 0))))) (tRet (tC (.bl false))) tNext)
    (tSeq (tAsg (tTup (tCons (tLst tNil) (tCons (tLst (tCons (tCall sp_value [] E0 (tCons (tVar 4) (tCons (tVar 2) tNil))) tNil)) (tCons (tC (.int 0)) tNil)))) (gName 7))
    (tSeq (tIfS (tTest (tOp rNe (tCB (rRepr K) (tCons (tCall sp_plus [] E0 (tCons (tCall sp_counts [] E0 (tCons (tVar 6) tNil)) (tCons (tVar 7) tNil))) tNil)) (tCB (rRepr K) (tCons (tCall sp_joined [] E0 (tCons (tVar 3) (tCons (tVar 4) tNil))) tNil)))) (tRet (tC (.bl false))) tNext)
    (tSeq (tIfS (tTest (tOp rNe (tCB (rRepr K) (tCons (tCall sp_moved [] E0 (tCons (tVar 5) (tCons (tOp rSub (tC (.int 0)) (tVar 2)) tNil))) tNil)) (tCB (rRepr K) (tCons (tCall sp_least_set [] E0 (tCons (tVar 1) tNil)) tNil)))) (tRet (tC (.bl false))) tNext)
    (tSeq (tAsg (tLc (iRng1 (tCons (tVar 2) tNil)) (gName 9) (tB (tCall sp_z_has [] E0 (tCons (tVar 1) (tCons (tVar 9) tNil)))) (tVar 9) [9]) (gName 8))
    (tRet (tOp rEq (tCB (rRepr K) (tCons (tCall sp_either [] E0 (tCons (tCall sp_moved [] E0 (tCons (tVar 6) (tCons (tVar 2) tNil))) (tCons (tCall sp_set_of [] E0 (tCons (tVar 8) tNil)) tNil))) tNil)) (tCB (rRepr K) (tCons (tCall sp_least_set [] E0 (tCons (tVar 1) tNil)) tNil))))))))))))
/-- the reading of _law_right -/
def t_z_right (K : PySem.W.Frag) : TS :=
  (tSeq (tAsg (tOp (rIxL K) (tLst (tCons (tC (.int 12)) (tCons (tC (.int 6)) tNil))) (tCall sp_z_pick [] E0 (tCons (tVar 0) (tCons (tC (.int 2)) tNil)))) (gName 1))
    (tSeq (tPar 2 3 (tCons (tCall sp_z_set [] E0 (tCons (tVar 0) (tCons (tVar 1) tNil))) (tCons (tCall sp_z_set [] E0 (tCons (tVar 0) (tCons (tVar 1) tNil))) tNil)))
    (tSeq (tIfS (tTest (tOp rEq (tCall sp_z_pick [] E0 (tCons (tVar 0) (tCons (tC (.int 4)) tNil))) (tC (.int 0)))) (tAsg (tCall sp_z_set_wide [] E0 (tCons (tVar 0) (tCons (tVar 2) (tCons (tC (.int 24)) tNil)))) (gName 3)) tNext)
    (tSeq (tAsg (tCB (rRepr K) (tCons (tLst (tCons (tVar 2) (tCons (tVar 3) tNil))) tNil)) (gName 4))
    (tSeq (tIfS (tOr (tNot (tB (tCall sp_z_sums_right [] E0 (tCons (tVar 2) (tCons (tVar 3) tNil))))) (tNot (tB (tCall sp_z_turned_right [] E0 (tCons (tVar 2) (tCons (tVar 3) tNil)))))) (tRet (tC (.bl false))) tNext)
    (tRet (tAndV (tCall sp_z_moved_right [] E0 (tCons (tVar 0) (tCons (tVar 2) tNil))) (tOp rEq (tCB (rRepr K) (tCons (tLst (tCons (tVar 2) (tCons (tVar 3) tNil))) tNil)) (tVar 4)))))))))
/-- the reading of law -/
def t_law (K : PySem.W.Frag) : TS :=
  (tSeq (tFor (iRng1 (tCons (tCB rMax2 (tCons (tC (.int 1)) (tCons (tCB rMin2 (tCons (tC (.int 3)) (tCons (tCB (rLenQ K) (tCons (tVar 0) tNil)) tNil))) tNil))) tNil)) (gName 1)
    (tIfS (tNot (tB (tCall sp_z_right [] E0 (tCons (tCall (sp_z_sack K) [] E0 (tCons (tVar 0) (tCons (tVar 1) tNil))) tNil)))) (tRet (tC (.bl false))) tNext))
    (tRet (tC (.bl true))))
end LD
/-! M2: the law's equalities, plain. -/
namespace LM
/-! ### sets made of rows -/
structure Row01 (r : List Int × List Int) : Prop where
  pos : 0 < r.2.length
  b : ∀ n, tells (rowLad r) n = 0 ∨ tells (rowLad r) n = 1
theorem gain0 (r : List Int × List Int) : gainOf (rowLad r) = 0 := by
  show (0 : Int) * _ / _ = 0
  rw [Int.zero_mul, Int.zero_ediv]
theorem mem_ones {xs : List Int} {i : Nat} : (i : Int) ∈ ones xs ↔ i < xs.length ∧ xs.getD i 0 = 1 := by
  unfold ones
  constructor
  · intro h
    obtain ⟨j, hj, e⟩ := List.mem_map.mp h
    have e' : (j : Int) = (i : Int) := e
    have e2 : j = i := by omega
    subst e2
    obtain ⟨h1, h2⟩ := List.mem_filter.mp hj
    exact ⟨List.mem_range.mp h1, of_decide_eq_true h2⟩
  · intro h
    exact List.mem_map.mpr ⟨i, List.mem_filter.mpr ⟨List.mem_range.mpr h.1, decide_eq_true h.2⟩, rfl⟩
theorem asc_ones (xs : List Int) : Asc (ones xs) xs.length := by
  unfold ones
  refine ⟨List.pairwise_map.mpr ?_, fun x hx => ?_⟩
  · exact ((List.pairwise_lt_range (n := xs.length)).filter (p := fun i => decide (xs.getD i 0 = 1))).imp fun {a b} h => by
      show ((a : Nat) : Int) < ((b : Nat) : Int)
      omega
  · obtain ⟨j, hj, e⟩ := List.mem_map.mp hx
    have h1 := List.mem_range.mp (List.mem_filter.mp hj).1
    have e' : (j : Int) = x := e
    omega
theorem setFrom_ok {r : List Int × List Int} (h : 0 < r.2.length) : SetOk (setFrom r) := by
  have hl := leastLen_prop (turn := (rowLad r).turn) (rise := (rowLad r).rise) h
  refine ⟨?_, asc_ones _, asc_ones _⟩
  show 0 < (leastWay (rowLad r)).turn.length
  rw [leastWay_turn]
  exact hl.1
theorem setFrom_fit {r : List Int × List Int} {e b : Nat} (h : LadFit (rowLad r) e b) : SetFit (setFrom r) e b := by
  have f := fit_least h
  exact ⟨setFrom_ok h.pos, f.early, f.turn⟩
theorem bit_setFrom {r : List Int × List Int} (h : Row01 r) (n : Nat) : bit (setFrom r) n = tells (rowLad r) n := by
  have e := leastWay_tells (l := rowLad r) h.pos n
  have hL : 0 < (leastWay (rowLad r)).turn.length := by
    rw [leastWay_turn]
    exact (leastLen_prop (turn := (rowLad r).turn) (rise := (rowLad r).rise) h.pos).1
  have hr : (leastWay (rowLad r)).rise = 0 := gain0 r
  have h01 := h.b n
  rw [← e] at h01 ⊢
  unfold bit setFrom
  generalize leastWay (rowLad r) = l at *
  dsimp only
  by_cases hn : n < l.early.length
  · rw [if_pos hn]
    rw [tells_lt hn] at h01 ⊢
    by_cases hm : (n : Int) ∈ ones l.early
    · rw [if_pos hm, (mem_ones.mp hm).2]
    · rw [if_neg hm]
      rcases h01 with z | z
      · exact z.symm
      · exact absurd (mem_ones.mpr ⟨hn, z⟩) hm
  · rw [if_neg hn]
    rw [tells_ge (by omega)] at h01 ⊢
    unfold cyc at h01 ⊢
    rw [hr, Int.zero_mul, Int.add_zero] at h01 ⊢
    have hlt := Nat.mod_lt (n - l.early.length) hL
    by_cases hm : (((n - l.early.length) % l.turn.length : Nat) : Int) ∈ ones l.turn
    · rw [if_pos hm, (mem_ones.mp hm).2]
    · rw [if_neg hm]
      rcases h01 with z | z
      · exact z.symm
      · exact absurd (mem_ones.mpr ⟨hlt, z⟩) hm
/-- made of a row -/
def Canon (s : DSet) : Prop := ∃ r, Row01 r ∧ s = setFrom r
theorem canon_ext {s t : DSet} (hs : Canon s) (ht : Canon t) (h : ∀ n, bit s n = bit t n) : s = t := by
  obtain ⟨r, h1, rfl⟩ := hs
  obtain ⟨q, h2, rfl⟩ := ht
  have e : leastWay (rowLad r) = leastWay (rowLad q) := leastWay_congr (l := rowLad r) (k := rowLad q) h1.pos h2.pos fun n => by rw [← bit_setFrom h1 n, h n, bit_setFrom h2 n]
  unfold setFrom
  rw [e]
theorem Canon.ok {s : DSet} (h : Canon s) : SetOk s := by
  obtain ⟨r, h1, rfl⟩ := h
  exact setFrom_ok h1.pos

/-! rows that tell a function -/
theorem row_fn {f : Nat → Int} {e p : Nat} (hp : 0 < p) (h : ∀ n, e ≤ n → f (n + p) = f n) (n : Nat) : tells (rowLad (firstN f e, firstN (fun i => f (e + i)) p)) n = f n :=
  tells_of (g := 0) hp (fun n hn => by rw [h n hn]; omega) n
theorem bit_more {s : DSet} (h : SetOk s) {n p : Nat} (hn : s.first ≤ n) (hd : s.len ∣ p) : bit s (n + p) = bit s n := by
  obtain ⟨k, rfl⟩ := hd
  induction k with
  | zero => rfl
  | succ k ih =>
    rw [Nat.mul_succ, ← Nat.add_assoc, bit_again h.pos (by omega), ih]
section
variable {s t : DSet}
theorem mix_row {f : Int → Int → Int} (hs : SetOk s) (ht : SetOk t) (n : Nat) : tells (rowLad (mixRow f s t)) n = f (bit s n) (bit t n) :=
  row_fn (f := fun n => f (bit s n) (bit t n)) (Nat.lcm_pos hs.pos ht.pos) (fun n hn => by
    rw [bit_more hs (by omega) (Nat.dvd_lcm_left _ _), bit_more ht (by omega) (Nat.dvd_lcm_right _ _)]) n
theorem mix_01 {f : Int → Int → Int} (hs : SetOk s) (ht : SetOk t) (hf : ∀ a b : Int, (a = 0 ∨ a = 1) → (b = 0 ∨ b = 1) → f a b = 0 ∨ f a b = 1) : Row01 (mixRow f s t) :=
  ⟨by rw [show (mixRow f s t).2.length = Nat.lcm s.len t.len from firstN_length _ _]; exact Nat.lcm_pos hs.pos ht.pos, fun n => by rw [mix_row hs ht]; exact hf _ _ (bit_01 s n) (bit_01 t n)⟩
theorem both_01 (a b : Int) (ha : a = 0 ∨ a = 1) (hb : b = 0 ∨ b = 1) : a * b = 0 ∨ a * b = 1 := by rcases ha with rfl | rfl <;> rcases hb with rfl | rfl <;> decide
theorem either_01 (a b : Int) (ha : a = 0 ∨ a = 1) (hb : b = 0 ∨ b = 1) : max a b = 0 ∨ max a b = 1 := by rcases ha with rfl | rfl <;> rcases hb with rfl | rfl <;> decide
theorem but_01 (a b : Int) (ha : a = 0 ∨ a = 1) (hb : b = 0 ∨ b = 1) : a * (1 - b) = 0 ∨ a * (1 - b) = 1 := by rcases ha with rfl | rfl <;> rcases hb with rfl | rfl <;> decide
theorem bit_both (hs : SetOk s) (ht : SetOk t) (n : Nat) : bit (bothS s t) n = bit s n * bit t n := (bit_setFrom (mix_01 hs ht both_01) n).trans (mix_row hs ht n)
theorem bit_either (hs : SetOk s) (ht : SetOk t) (n : Nat) : bit (eitherS s t) n = max (bit s n) (bit t n) := (bit_setFrom (mix_01 hs ht either_01) n).trans (mix_row hs ht n)
theorem bit_but (hs : SetOk s) (ht : SetOk t) (n : Nat) : bit (butS s t) n = bit s n * (1 - bit t n) := (bit_setFrom (mix_01 hs ht but_01) n).trans (mix_row hs ht n)
theorem canon_both (hs : SetOk s) (ht : SetOk t) : Canon (bothS s t) := ⟨_, mix_01 hs ht both_01, rfl⟩
theorem canon_either (hs : SetOk s) (ht : SetOk t) : Canon (eitherS s t) := ⟨_, mix_01 hs ht either_01, rfl⟩
theorem canon_but (hs : SetOk s) (ht : SetOk t) : Canon (butS s t) := ⟨_, mix_01 hs ht but_01, rfl⟩
theorem row_01 (hs : SetOk s) : Row01 (setRow s) := ⟨by rw [show (setRow s).2.length = s.len from firstN_length _ _]; exact hs.pos, fun n => by rw [tells_row hs.pos]; exact bit_01 s n⟩
theorem bit_least (hs : SetOk s) (n : Nat) : bit (leastS s) n = bit s n := (bit_setFrom (row_01 hs) n).trans (tells_row hs.pos n)
theorem canon_least (hs : SetOk s) : Canon (leastS s) := ⟨_, row_01 hs, rfl⟩
theorem others_row (hs : SetOk s) (n : Nat) : tells (rowLad ((setRow s).1.map (1 - ·), (setRow s).2.map (1 - ·))) n = 1 - bit s n := by
  have e : ((setRow s).1.map (1 - ·), (setRow s).2.map (1 - ·)) = (firstN (fun n => 1 - bit s n) s.first, firstN (fun i => 1 - bit s (s.first + i)) s.len) := by
    show ((firstN _ _).map _, (firstN _ _).map _) = _
    rw [firstN_map, firstN_map]
  rw [e]
  exact row_fn (f := fun n => 1 - bit s n) hs.pos (fun n hn => by rw [bit_again hs.pos hn]) n
theorem others_01 (hs : SetOk s) : Row01 ((setRow s).1.map (1 - ·), (setRow s).2.map (1 - ·)) :=
  ⟨by show 0 < ((firstN _ _).map _).length; rw [List.length_map, firstN_length]; exact hs.pos, fun n => by rw [others_row hs]; have := bit_01 s n; omega⟩
theorem bit_others (hs : SetOk s) (n : Nat) : bit (othersS s) n = 1 - bit s n := (bit_setFrom (others_01 hs) n).trans (others_row hs n)
theorem canon_others (hs : SetOk s) : Canon (othersS s) := ⟨_, others_01 hs, rfl⟩
theorem rep_firstN (k : Nat) : List.replicate k (0 : Int) = firstN (fun _ => 0) k :=
  is_firstN List.length_replicate fun i hi => by rw [List.getElem?_replicate, if_pos hi]
theorem later_row (hs : SetOk s) (k n : Nat) : tells (rowLad (List.replicate k 0 ++ (setRow s).1, (setRow s).2)) n = if n < k then 0 else bit s (n - k) := by
  have e : (List.replicate k 0 ++ (setRow s).1, (setRow s).2) = (firstN (fun n => if n < k then 0 else bit s (n - k)) (k + s.first), firstN (fun i => (fun n => if n < k then 0 else bit s (n - k)) (k + s.first + i)) s.len) := by
    rw [firstN_append, rep_firstN]
    show (firstN _ k ++ firstN (bit s) s.first, firstN (fun i => bit s (s.first + i)) s.len) = _
    congr 1
    · congr 1
      · exact firstN_congr fun i hi => by rw [if_pos hi]
      · exact firstN_congr fun i hi => by rw [if_neg (by omega), show k + i - k = i by omega]
    · exact firstN_congr fun i hi => by
        dsimp only
        rw [if_neg (by omega), show k + s.first + i - k = s.first + i by omega]
  rw [e]
  exact row_fn (f := fun n => if n < k then 0 else bit s (n - k)) hs.pos (fun n hn => by
    rw [if_neg (by omega), if_neg (by omega), show n + s.len - k = n - k + s.len by omega, bit_again hs.pos (by omega)]) n
theorem later_01 (hs : SetOk s) (k : Nat) : Row01 (List.replicate k 0 ++ (setRow s).1, (setRow s).2) :=
  ⟨by show 0 < (firstN _ _).length; rw [firstN_length]; exact hs.pos, fun n => by
    rw [later_row hs]
    split
    · exact .inl rfl
    · exact bit_01 s _⟩
theorem bit_later (hs : SetOk s) (k n : Nat) : bit (laterS k s) n = if n < k then 0 else bit s (n - k) := (bit_setFrom (later_01 hs k) n).trans (later_row hs k n)
theorem canon_later (hs : SetOk s) (k : Nat) : Canon (laterS k s) := ⟨_, later_01 hs k, rfl⟩
theorem earlier_row (hs : SetOk s) (k n : Nat) : tells (rowLad ((setRow s).1.drop k, (setRow s).2.drop ((k - s.first) % s.len) ++ (setRow s).2.take ((k - s.first) % s.len))) n = bit s (n + k) := by
  have hm : (k - s.first) % s.len < s.len := Nat.mod_lt _ hs.pos
  have hdm : s.len * ((k - s.first) / s.len) + (k - s.first) % s.len = k - s.first := Nat.div_add_mod _ _
  have e : ((setRow s).1.drop k, (setRow s).2.drop ((k - s.first) % s.len) ++ (setRow s).2.take ((k - s.first) % s.len)) = (firstN (fun n => bit s (n + k)) (s.first - k), firstN (fun i => (fun n => bit s (n + k)) (s.first - k + i)) s.len) := by
    show ((firstN (bit s) s.first).drop k, (firstN (fun i => bit s (s.first + i)) s.len).drop _ ++ (firstN (fun i => bit s (s.first + i)) s.len).take _) = _
    rw [firstN_drop, firstN_drop, firstN_take (by omega)]
    congr 1
    · exact firstN_congr fun i hi => by rw [Nat.add_comm]
    · -- the turned round
      have key : ∀ i, i < s.len → bit s (s.first - k + i + k) = if i < s.len - (k - s.first) % s.len then bit s (s.first + ((k - s.first) % s.len + i)) else bit s (s.first + (i - (s.len - (k - s.first) % s.len))) := by
        intro i hi
        generalize (k - s.first) % s.len = m at *
        have a1 : s.first - k + i + k = s.first + (m + i) + s.len * ((k - s.first) / s.len) := by omega
        rw [a1, bit_more hs (by omega) (Nat.dvd_mul_right _ _)]
        by_cases hi2 : i < s.len - m
        · rw [if_pos hi2]
        · rw [if_neg hi2, show s.first + (m + i) = s.first + (i - (s.len - m)) + s.len by omega, bit_again hs.pos (by omega)]
      refine is_firstN (by rw [List.length_append, firstN_length, firstN_length]; omega) fun i hi => ?_
      by_cases hi2 : i < s.len - (k - s.first) % s.len
      · rw [List.getElem?_append_left (by rw [firstN_length]; exact hi2), firstN_get hi2]
        dsimp only
        rw [key i hi, if_pos hi2]
      · rw [List.getElem?_append_right (by rw [firstN_length]; omega), firstN_length, firstN_get (by omega)]
        dsimp only
        rw [key i hi, if_neg hi2]
  rw [e]
  exact row_fn (f := fun n => bit s (n + k)) hs.pos (fun n hn => by
    rw [show n + s.len + k = n + k + s.len by omega, bit_again hs.pos (by omega)]) n
theorem earlier_01 (hs : SetOk s) (k : Nat) : Row01 ((setRow s).1.drop k, (setRow s).2.drop ((k - s.first) % s.len) ++ (setRow s).2.take ((k - s.first) % s.len)) :=
  ⟨by
    have hm : (k - s.first) % s.len < s.len := Nat.mod_lt _ hs.pos
    show 0 < ((firstN _ _).drop _ ++ (firstN _ _).take _).length
    rw [List.length_append, List.length_drop, List.length_take, firstN_length]
    omega, fun n => by rw [earlier_row hs]; exact bit_01 s _⟩
theorem bit_earlier (hs : SetOk s) (k n : Nat) : bit (earlierS k s) n = bit s (n + k) := (bit_setFrom (earlier_01 hs k) n).trans (earlier_row hs k n)
theorem canon_earlier (hs : SetOk s) (k : Nat) : Canon (earlierS k s) := ⟨_, earlier_01 hs k, rfl⟩
end

/-! ### sizes -/
section
variable {s t : DSet} {a b c d : Nat}
theorem lcm_le {m n a b : Nat} (h0 : 0 < m) (h1 : 0 < n) (hm : m ≤ a) (hn : n ≤ b) : Nat.lcm m n ≤ a * b :=
  Nat.le_trans (Nat.le_of_dvd (Nat.mul_pos h0 h1) (Nat.lcm_dvd (Nat.dvd_mul_right m n) (Nat.dvd_mul_left n m))) (Nat.mul_le_mul hm hn)
theorem fit_mix {f : Int → Int → Int} (hs : SetFit s a b) (ht : SetFit t c d) : SetFit (setFrom (mixRow f s t)) (max a c) (b * d) :=
  setFrom_fit (mix_fit hs.ok ht.ok (by have := hs.first; have := ht.first; omega) (lcm_le hs.ok.pos ht.ok.pos hs.len ht.len))
theorem fit_row (hs : SetFit s a b) : SetFit (leastS s) a b := setFrom_fit (row_fit hs)
theorem fit_others (hs : SetFit s a b) : SetFit (othersS s) a b := setFrom_fit ⟨by show 0 < ((firstN _ _).map _).length; rw [List.length_map, firstN_length]; exact hs.ok.pos, by show ((firstN _ _).map _).length ≤ a; rw [List.length_map, firstN_length]; exact hs.first, by show ((firstN _ _).map _).length ≤ b; rw [List.length_map, firstN_length]; exact hs.len, Int.le_refl 0, show (0 : Int) < 1099511627776 by decide⟩
theorem fit_later (hs : SetFit s a b) (k : Nat) : SetFit (laterS k s) (k + a) b := setFrom_fit ⟨(later_01 hs.ok k).pos, by
  show (List.replicate k 0 ++ firstN _ _).length ≤ _
  rw [List.length_append, List.length_replicate, firstN_length]
  have := hs.first
  omega, by show (firstN _ _).length ≤ b; rw [firstN_length]; exact hs.len, Int.le_refl 0, show (0 : Int) < 1099511627776 by decide⟩
theorem fit_earlier (hs : SetFit s a b) (k : Nat) : SetFit (earlierS k s) a b := setFrom_fit ⟨(earlier_01 hs.ok k).pos, by
  show ((firstN _ _).drop _).length ≤ _
  rw [List.length_drop, firstN_length]
  have := hs.first
  omega, by
  have hm : (k - s.first) % s.len < s.len := Nat.mod_lt _ hs.ok.pos
  show ((firstN _ _).drop _ ++ (firstN _ _).take _).length ≤ b
  rw [List.length_append, List.length_drop, List.length_take, firstN_length]
  have := hs.len
  omega, Int.le_refl 0, show (0 : Int) < 1099511627776 by decide⟩
theorem SetFit.mono {a' b' : Nat} (h : SetFit s a b) (ha : a ≤ a') (hb : b ≤ b') : SetFit s a' b' := ⟨h.ok, Nat.le_trans h.first ha, Nat.le_trans h.len hb⟩
end

/-! ### counts -/
theorem tells_cntLad {s : DSet} (h : SetOk s) (n : Nat) : tells (cntLad s) n = cnt s n := by
  have hp : ∀ n, s.first ≤ n → (firstN (fun i => bit s (n + i)) s.len).sum = (firstN (fun i => bit s (s.first + i)) s.len).sum := by
    intro n hn
    induction n with
    | zero =>
      have : s.first = 0 := by omega
      rw [this]
    | succ n ih =>
      by_cases hz : s.first = n + 1
      · rw [hz]
      · rw [← ih (by omega)]
        have e1 := cnt_sum s n (s.len + 1)
        have e2 := cnt_sum s (n + 1) s.len
        have e3 := cnt_sum s n s.len
        have e4 : cnt s (n + 1) = cnt s n + bit s n := rfl
        have e5 : cnt s (n + (s.len + 1)) = cnt s (n + s.len) + bit s (n + s.len) := rfl
        rw [show n + 1 + s.len = n + (s.len + 1) by omega] at e2
        rw [bit_again h.pos (by omega)] at e5
        omega
  exact tells_of (f := cnt s) h.pos (fun n hn => by rw [cnt_sum s n s.len, hp n hn]) n
theorem tells_counts {s : DSet} (h : SetOk s) (n : Nat) : tells (countsL s) n = cnt s n :=
  (leastWay_tells (l := cntLad s) (by rw [show (cntLad s).turn.length = s.len from firstN_length _ _]; exact h.pos) n).trans (tells_cntLad h n)
theorem cnt_mono (s : DSet) (n : Nat) : cnt s n ≤ cnt s (n + 1) := by
  show cnt s n ≤ cnt s n + bit s n
  have := bit_01 s n
  omega
theorem cnt_bound (s : DSet) : ∀ n, 0 ≤ cnt s n ∧ cnt s n ≤ (n : Int)
  | 0 => ⟨Int.le_refl 0, Int.le_refl 0⟩
  | n + 1 => by
    have ih := cnt_bound s n
    show 0 ≤ cnt s n + bit s n ∧ cnt s n + bit s n ≤ _
    have := bit_01 s n
    omega
theorem cnt_fit {s : DSet} {a b : Nat} (h : SetFit s a b) (hb : b ≤ 1000000) : LadFit (countsL s) a b := fit_least (cntLad_fit h hb)
theorem gain_le {l : Lad} (h : 0 < l.turn.length) (h0 : 0 ≤ l.rise) : 0 ≤ gainOf l ∧ gainOf l ≤ l.rise := by
  have p := leastLen_prop (rise := l.rise) h
  have e1 : ((l.turn.length / leastLen l.turn l.rise : Nat) : Int) * gainOf l = l.rise := qp_gain h p.2.1 (gain_is h)
  have tp : 0 < l.turn.length / leastLen l.turn l.rise := Nat.div_pos (least_le h) p.1
  have g0 : 0 ≤ gainOf l := by
    by_cases z : gainOf l < 0
    · have := Int.mul_neg_of_pos_of_neg (show (0 : Int) < ((l.turn.length / leastLen l.turn l.rise : Nat) : Int) by omega) z
      omega
    · omega
  have : 1 * gainOf l ≤ ((l.turn.length / leastLen l.turn l.rise : Nat) : Int) * gainOf l := Int.mul_le_mul_of_nonneg_right (by omega) g0
  exact ⟨g0, by omega⟩
theorem counts_rise {s : DSet} {a b : Nat} (h : SetFit s a b) : 0 ≤ (countsL s).rise ∧ (countsL s).rise ≤ (b : Int) := by
  have f := sum_01 (f := fun i => bit s (s.first + i)) (fun i => bit_01 s _) s.len
  have g := gain_le (l := cntLad s) (by rw [show (cntLad s).turn.length = s.len from firstN_length _ _]; exact h.ok.pos) f.1
  have hr : (cntLad s).rise = (firstN (fun i => bit s (s.first + i)) s.len).sum := rfl
  have := h.len
  show 0 ≤ gainOf _ ∧ gainOf _ ≤ _
  omega
theorem fallsB_of : ∀ {ns : List Int}, ns.Pairwise (· ≤ ·) → fallsB ns = true
  | [], _ => rfl
  | [_], _ => rfl
  | a :: b :: r, h => by
    have p := List.pairwise_cons.mp h
    have ih := fallsB_of p.2
    unfold fallsB at ih ⊢
    simp only [List.drop_succ_cons, List.drop_zero, List.zipWith_cons_cons, List.all_cons, id_eq] at ih ⊢
    rw [ih, decide_eq_true (p.1 b List.mem_cons_self)]
    rfl
theorem mono_pair {f : Nat → Int} (h : ∀ n, f n ≤ f (n + 1)) (n : Nat) : (firstN f n).Pairwise (· ≤ ·) := by
  have hm : ∀ k m, f m ≤ f (m + k) := by
    intro k
    induction k with
    | zero => intro m; exact Int.le_refl _
    | succ k ih => intro m; exact Int.le_trans (ih m) (h _)
  unfold firstN
  refine List.pairwise_map.mpr ((List.pairwise_lt_range (n := n)).imp fun {a b} hab => ?_)
  have := hm (b - a) a
  rw [show a + (b - a) = b by omega] at this
  exact this
theorem ladList_is {l : Lad} (h : 0 < l.turn.length) : ladList l = 0 :: firstN (tells l) (l.early.length + l.turn.length + 1) := by
  have h0 := numbers_is (l := l) (Nat.le_refl l.turn.length)
  rw [List.take_length] at h0
  have h1 : tells l (l.early.length + l.turn.length) = l.turn.getD 0 0 + l.rise := by
    rw [tells_add h (Nat.le_refl _), tells_ge (Nat.le_refl _), Nat.sub_self, cyc_lt h]
  rw [firstN_succ, ← h0, h1]
  unfold ladList
  simp
theorem falls_lad {l : Lad} (h : 0 < l.turn.length) (h0 : 0 ≤ tells l 0) (hm : ∀ n, tells l n ≤ tells l (n + 1)) : fallsB (ladList l) = true := by
  rw [ladList_is h]
  refine fallsB_of (List.pairwise_cons.mpr ⟨fun x hx => ?_, mono_pair hm _⟩)
  obtain ⟨i, _, rfl⟩ := List.mem_map.mp hx
  have : ∀ k, 0 ≤ tells l k := by
    intro k
    induction k with
    | zero => exact h0
    | succ k ih => exact Int.le_trans ih (hm k)
  exact this i
theorem counts_ok {s : DSet} {a b : Nat} (h : SetFit s a b) (ha : a ≤ 1000) (hb : b ≤ 1000000) : LadOk (countsL s) 1000 1000000 := by
  have f := cnt_fit h hb
  refine ⟨⟨f.pos, Nat.le_trans f.early ha, Nat.le_trans f.turn hb, f.r0, f.r1⟩, falls_lad f.pos ?_ fun n => ?_⟩
  · rw [tells_counts h.ok]
    exact (cnt_bound s 0).1
  · rw [tells_counts h.ok, tells_counts h.ok]
    exact cnt_mono s n
/-! ### added, shifted -/
theorem tells_addLad {l k : Lad} (hl : 0 < l.turn.length) (hk : 0 < k.turn.length) (n : Nat) : tells (addLad l k) n = tells l n + tells k n :=
  tells_of (f := fun n => tells l n + tells k n) (Nat.lcm_pos hl hk) (fun n hn => by
    rw [tells_turn hl (by omega) (Nat.dvd_lcm_left _ _), tells_turn hk (by omega) (Nat.dvd_lcm_right _ _)]
    omega) n
theorem tells_shiftLad {d : Nat} {l : Lad} (h : 0 < l.turn.length) (n : Nat) : tells (shiftLad d l) n = tells l (d + n) :=
  tells_of (f := fun n => tells l (d + n)) h (fun n hn => by
    rw [← Nat.add_assoc, tells_add h (by omega)]) n
theorem add_rise {l k : Lad} {a b c d : Nat} (hl : 0 < l.turn.length) (hk : 0 < k.turn.length) (h1 : 0 ≤ l.rise) (h2 : l.rise ≤ (a : Int)) (h3 : 0 ≤ k.rise) (h4 : k.rise ≤ (b : Int)) (t1 : l.turn.length ≤ c) (t2 : k.turn.length ≤ d) (hz : a * (c * d) + b * (c * d) < 1099511627776) :
    (addLad l k).rise < 1099511627776 := by
  have q := lcm_le hl hk t1 t2
  show l.rise * ((Nat.lcm l.turn.length k.turn.length / l.turn.length : Nat) : Int) + k.rise * ((Nat.lcm l.turn.length k.turn.length / k.turn.length : Nat) : Int) < _
  have d1 := Nat.div_le_self (Nat.lcm l.turn.length k.turn.length) l.turn.length
  have d2 := Nat.div_le_self (Nat.lcm l.turn.length k.turn.length) k.turn.length
  generalize Nat.lcm l.turn.length k.turn.length / l.turn.length = x at *
  generalize Nat.lcm l.turn.length k.turn.length / k.turn.length = y at *
  have m1 : l.rise * (x : Int) ≤ (a : Int) * ((c * d : Nat) : Int) := Int.mul_le_mul h2 (by omega) (by omega) (by omega)
  have m2 : k.rise * (y : Int) ≤ (b : Int) * ((c * d : Nat) : Int) := Int.mul_le_mul h4 (by omega) (by omega) (by omega)
  rw [← Int.natCast_mul] at m1 m2
  omega
end LM
/-! R1: texts of sets and ladders: short enough, and no two sets have the same. -/
namespace LD
open PySem PySem.Spec PyProof.Rows L2 LM
structure ReprOk (d : D) : Prop where
  sh : SeqAt.shaped d = true
  sw : d.showable = true
  nd : d.hasDict = false
  dp : d.depth ≤ 60
  ln : d.shown.length ≤ sizeLine
theorem ev_reprO {δ : DE} {ta : TE} {K : PySem.W.Frag} {d : D} (ha : EvD ta δ d) (h : ReprOk d) : EvD (tCB (rRepr K) (tCons ta tNil)) δ (.str d.shown) := ev_repr ha h.sh h.sw h.nd h.dp h.ln
/-! small data -/
structure Sm (d : D) (k n : Nat) : Prop where
  lay : d.canLay0 = true
  sw : d.showable = true
  lv : d.leavesShort 13 = true
  dp : d.depth ≤ k
  bk : d.bulk ≤ n
structure SmAll (ds : List D) (k n : Nat) : Prop where
  lay : PyData.canLayAll0 ds = true
  sw : PyData.showableAll ds = true
  lv : PyData.leavesShortAll 13 ds = true
  dp : PyData.depthAll ds ≤ k
  bk : PyData.bulkAll ds ≤ n
theorem Sm.ok {d : D} {k n : Nat} (h : Sm d k n) (hk : k ≤ 60) (hn : n ≤ 1048576) : ReprOk d := by
  refine ⟨?_, h.sw, PyData.hasDict_of_canLay d h.lay, Nat.le_trans h.dp hk, PyData.shown_fits_bulk (B := 13) (by decide) (by decide) h.lv (Nat.le_trans h.bk (Nat.le_trans hn (by decide)))⟩
  unfold SeqAt.shaped
  have := h.dp
  rw [h.lay, Bool.true_and, decide_eq_true_iff]
  omega
abbrev Sml (x : Int) : Prop := -999999999999 ≤ x ∧ x ≤ 999999999999
theorem log_lt {x : Nat} (h : x ≤ 999999999999) : x.log2 < 1920 := by
  by_cases h0 : x = 0
  · subst h0
    decide
  · rw [Nat.log2_lt h0]
    calc x ≤ 999999999999 := h
      _ < 2 ^ 40 := by decide
      _ ≤ 2 ^ 1920 := Nat.pow_le_pow_right (by decide) (by decide)
theorem sm_int {x : Int} (h : Sml x) : Sm (.int x) 0 0 :=
  ⟨by simp [PyData.canLay0], by simp only [PyData.showable, decide_eq_true_eq]; exact log_lt (by omega), by simp only [PyData.leavesShort, decide_eq_true_eq]; exact PyData.shown_int_le2 h.1 h.2, by simp [PyData.depth], by simp [PyData.bulk]⟩
theorem sm_none : Sm .none 0 0 := ⟨by simp [PyData.canLay0], by simp [PyData.showable], by simp [PyData.leavesShort], by simp [PyData.depth], by simp [PyData.bulk]⟩
theorem sma_nil : SmAll [] 0 0 := ⟨by simp [PyData.canLayAll0], by simp [PyData.showableAll], by simp [PyData.leavesShortAll], by simp [PyData.depthAll], by simp [PyData.bulkAll]⟩
theorem sma_cons {d : D} {ds : List D} {k j n m : Nat} (h : Sm d k n) (hs : SmAll ds j m) : SmAll (d :: ds) (max k j) (n + 1 + m) := by
  refine ⟨?_, ?_, ?_, ?_, ?_⟩
  · simp [PyData.canLayAll0, h.lay, hs.lay]
  · simp [PyData.showableAll, h.sw, hs.sw]
  · simp [PyData.leavesShortAll, h.lv, hs.lv]
  · have := h.dp
    have := hs.dp
    simp only [PyData.depthAll]
    omega
  · have := h.bk
    have := hs.bk
    simp only [PyData.bulkAll]
    omega
theorem sm_list {ds : List D} {k n : Nat} (h : SmAll ds k n) : Sm (.list ds) (k + 1) n := by
  refine ⟨by simp [PyData.canLay0, h.lay], by simp [PyData.showable, h.sw], by simp [PyData.leavesShort, h.lv], ?_, ?_⟩
  · have := h.dp
    simp only [PyData.depth]
    omega
  · have := h.bk
    simp only [PyData.bulk]
    omega
theorem sm_tup {ds : List D} {k n : Nat} (h : SmAll ds k n) : Sm (.tuple ds) (k + 1) n := by
  refine ⟨by simp [PyData.canLay0, h.lay], by simp [PyData.showable, h.sw], by simp [PyData.leavesShort, h.lv], ?_, ?_⟩
  · have := h.dp
    simp only [PyData.depth]
    omega
  · have := h.bk
    simp only [PyData.bulk]
    omega
theorem sma_ints : ∀ {ns : List Int}, (∀ x ∈ ns, Sml x) → SmAll (ns.map PyData.int) 0 ns.length
  | [], _ => sma_nil
  | n :: ns, h => by
    have h2 := sma_cons (sm_int (h n List.mem_cons_self)) (sma_ints fun x hx => h x (List.mem_cons_of_mem _ hx))
    rw [show 0 + 1 + ns.length = (n :: ns).length by rw [List.length_cons]; omega] at h2
    exact h2
theorem sm_lad {l : Lad} (h1 : ∀ x ∈ l.early, Sml x) (h2 : ∀ x ∈ l.turn, Sml x) (h3 : Sml l.rise) : Sm (ladD l) 2 (l.early.length + l.turn.length + 3) := by
  have h := sm_tup (sma_cons (sm_list (sma_ints h1)) (sma_cons (sm_list (sma_ints h2)) (sma_cons (sm_int h3) sma_nil)))
  exact ⟨h.lay, h.sw, h.lv, h.dp, Nat.le_trans h.bk (by omega)⟩
theorem sm_set {s : DSet} {a b : Nat} (h : SetFit s a b) (ha : a ≤ 100000) (hb : b ≤ 100000) : Sm (setD s) 2 200010 := by
  have e1 := h.ok.early
  have e2 := h.ok.found
  have l1 := asc_length e1
  have l2 := asc_length e2
  have f1 := h.first
  have f2 := h.len
  have h := sm_tup (sma_cons (sm_list (sma_ints (ns := s.early) fun x hx => by have := e1.2 x hx; omega)) (sma_cons (sm_int (x := (s.first : Int)) (by omega)) (sma_cons (sm_int (x := (s.len : Int)) (by omega)) (sma_cons (sm_list (sma_ints (ns := s.found) fun x hx => by have := e2.2 x hx; omega)) sma_nil))))
  exact ⟨h.lay, h.sw, h.lv, h.dp, Nat.le_trans h.bk (by omega)⟩
theorem repr_set {s : DSet} {a b : Nat} (h : SetFit s a b) (ha : a ≤ 100000) (hb : b ≤ 100000) : ReprOk (setD s) := (sm_set h ha hb).ok (by decide) (by decide)
theorem repr_sets {s t : DSet} {a b c d : Nat} (h : SetFit s a b) (ha : a ≤ 100000) (hb : b ≤ 100000) (h' : SetFit t c d) (hc : c ≤ 100000) (hd : d ≤ 100000) : ReprOk (.list [setD s, setD t]) :=
  (sm_list (sma_cons (sm_set h ha hb) (sma_cons (sm_set h' hc hd) sma_nil))).ok (by decide) (by decide)
theorem repr_opt {o : Option Nat} (h : ∀ n, o = some n → n ≤ 1000000) : ReprOk (optD o) := by
  cases o with
  | none => exact sm_none.ok (by decide) (by decide)
  | some n => exact (sm_int (x := (n : Int)) (by have := h n rfl; omega)).ok (by decide) (by decide)
theorem repr_lad {l : Lad} (h1 : ∀ x ∈ l.early, Sml x) (h2 : ∀ x ∈ l.turn, Sml x) (h3 : Sml l.rise) (e1 : l.early.length ≤ 100000) (e2 : l.turn.length ≤ 100000) : ReprOk (ladD l) := (sm_lad h1 h2 h3).ok (by decide) (by omega)
/-- a least way whose numbers stay small -/
theorem repr_least {l : Lad} (hp : 0 < l.turn.length) (e1 : l.early.length ≤ 50000) (e2 : l.turn.length ≤ 50000) (hb : ∀ n, n ≤ 100000 → Sml (tells l n)) (h0 : 0 ≤ l.rise) (hr : l.rise ≤ 999999999999) : ReprOk (ladD (leastWay l)) := by
  have g := gain_le hp h0
  have b := begin_le l
  have t := least_le hp
  refine repr_lad ?_ ?_ ?_ ?_ ?_
  · intro x hx
    obtain ⟨i, hi, rfl⟩ := List.mem_map.mp hx
    have := List.mem_range.mp hi
    exact hb i (by omega)
  · intro x hx
    obtain ⟨i, hi, rfl⟩ := List.mem_map.mp hx
    have := List.mem_range.mp hi
    exact hb _ (by omega)
  · show Sml (gainOf l)
    omega
  · rw [leastWay_early]
    omega
  · rw [leastWay_turn]
    omega

/-! texts -/
def cl (x : Str) : List Nat := x.cps.toList
theorem cl_append (a b : Str) : cl (a ++ b) = cl a ++ cl b := by
  show (a.cps ++ b.cps).toList = _
  rw [Array.toList_append]
  rfl
def dg (n : Nat) : List Nat := (Nat.toDigits 10 n).map Char.toNat
theorem cl_of (s : String) : cl (s : Str) = s.toList.map Char.toNat := by
  show (Str.ofString s).cps.toList = _
  rw [Str.ofString_eq_toList]
theorem cl_nat (n : Nat) : cl ((toString (n : Int) : String) : Str) = dg n := by
  rw [cl_of]
  show (Nat.repr n).toList.map Char.toNat = _
  rw [Nat.repr_eq_ofList_toDigits, String.toList_ofList]
  rfl
theorem dg_digit {n c : Nat} (h : c ∈ dg n) : 48 ≤ c ∧ c ≤ 57 := by
  obtain ⟨x, hx, rfl⟩ := List.mem_map.mp h
  have hd : x.isDigit = true := Nat.isDigit_of_mem_toDigits (by decide) (by decide) hx
  unfold Char.isDigit at hd
  simp only [ge_iff_le, Bool.and_eq_true, decide_eq_true_eq] at hd
  have h1 : (48 : UInt32).toNat ≤ x.val.toNat := UInt32.le_iff_toNat_le.mp hd.1
  have h2 : x.val.toNat ≤ (57 : UInt32).toNat := UInt32.le_iff_toNat_le.mp hd.2
  exact ⟨h1, h2⟩
theorem dg_ne (n : Nat) : dg n ≠ [] := by
  intro h
  have h2 := Nat.length_toDigits_pos (b := 10) (n := n)
  have h3 := congrArg List.length h
  unfold dg at h3
  rw [List.length_map] at h3
  rw [h3] at h2
  exact absurd h2 (by decide)
theorem dg_inj {m n : Nat} (h : dg m = dg n) : m = n := by
  have key : ∀ k, (dg k).foldl (fun a c => 10 * a + (c - 48)) 0 = k := by
    intro k
    unfold dg
    rw [List.foldl_map]
    exact Nat.ofDigitChars_ten_toDigits
  rw [← key m, h, key n]
theorem split_at {P : Nat → Prop} : ∀ {a b : List Nat} {x y : Nat} {t u : List Nat}, (∀ c ∈ a, P c) → (∀ c ∈ b, P c) → ¬ P x → ¬ P y → a ++ x :: t = b ++ y :: u → a = b ∧ x = y ∧ t = u
  | [], [], x, y, t, u, _, _, _, _, h => by
    injection h with h1 h2
    exact ⟨rfl, h1, h2⟩
  | [], b :: r, x, y, t, u, _, hb, hx, _, h => by
    injection h with h1 h2
    exact absurd (h1 ▸ hb b List.mem_cons_self) hx
  | a :: r, [], x, y, t, u, ha, _, _, hy, h => by
    injection h with h1 h2
    exact absurd (h1 ▸ ha a List.mem_cons_self) hy
  | a :: r, b :: q, x, y, t, u, ha, hb, hx, hy, h => by
    injection h with h1 h2
    obtain ⟨e1, e2, e3⟩ := split_at (fun c hc => ha c (List.mem_cons_of_mem _ hc)) (fun c hc => hb c (List.mem_cons_of_mem _ hc)) hx hy h2
    exact ⟨by rw [h1, e1], e2, e3⟩
theorem split_dg {m n x y : Nat} {t u : List Nat} (hx : ¬ (48 ≤ x ∧ x ≤ 57)) (hy : ¬ (48 ≤ y ∧ y ≤ 57)) (h : dg m ++ x :: t = dg n ++ y :: u) : m = n ∧ x = y ∧ t = u := by
  obtain ⟨e1, e2, e3⟩ := split_at (P := fun c => 48 ≤ c ∧ c ≤ 57) (fun c hc => dg_digit hc) (fun c hc => dg_digit hc) hx hy h
  exact ⟨dg_inj e1, e2, e3⟩
def jl : List Nat → List Nat
  | [] => []
  | [x] => dg x
  | x :: y :: r => dg x ++ 44 :: 32 :: jl (y :: r)
theorem dg_head {n x : Nat} {t u : List Nat} (h : dg n ++ t = x :: u) : 48 ≤ x ∧ x ≤ 57 := by
  cases hd : dg n with
  | nil => exact absurd hd (dg_ne n)
  | cons c r =>
    rw [hd] at h
    injection h with h1 h2
    rw [← h1]
    exact dg_digit (n := n) (by rw [hd]; exact List.mem_cons_self)
theorem jl_inj : ∀ {ns ms : List Nat} {r q : List Nat}, jl ns ++ 93 :: r = jl ms ++ 93 :: q → ns = ms ∧ r = q
  | [], [], r, q, h => by
    injection h with h1 h2
    exact ⟨rfl, h2⟩
  | [], [m], r, q, h => absurd (dg_head (show dg m ++ 93 :: q = 93 :: r from h.symm)) (by decide)
  | [], m :: m' :: ms, r, q, h => by
    have h' : dg m ++ (44 :: 32 :: jl (m' :: ms) ++ 93 :: q) = 93 :: r := by
      rw [← List.append_assoc]
      exact h.symm
    exact absurd (dg_head h') (by decide)
  | [n], [], r, q, h => absurd (dg_head (show dg n ++ 93 :: r = 93 :: q from h)) (by decide)
  | n :: n' :: ns, [], r, q, h => by
    have h' : dg n ++ (44 :: 32 :: jl (n' :: ns) ++ 93 :: r) = 93 :: q := by
      rw [← List.append_assoc]
      exact h
    exact absurd (dg_head h') (by decide)
  | [n], [m], r, q, h => by
    obtain ⟨e1, _, e3⟩ := split_dg (by decide) (by decide) (show dg n ++ 93 :: r = dg m ++ 93 :: q from h)
    exact ⟨by rw [e1], e3⟩
  | [n], m :: m' :: ms, r, q, h => by
    have h' : dg n ++ 93 :: r = dg m ++ 44 :: (32 :: jl (m' :: ms) ++ 93 :: q) := by
      show _ = dg m ++ ((44 :: 32 :: jl (m' :: ms)) ++ 93 :: q)
      rw [← List.append_assoc]
      exact h
    exact absurd (split_dg (by decide) (by decide) h').2.1 (by decide)
  | n :: n' :: ns, [m], r, q, h => by
    have h' : dg n ++ 44 :: (32 :: jl (n' :: ns) ++ 93 :: r) = dg m ++ 93 :: q := by
      show dg n ++ ((44 :: 32 :: jl (n' :: ns)) ++ 93 :: r) = _
      rw [← List.append_assoc]
      exact h
    exact absurd (split_dg (by decide) (by decide) h').2.1 (by decide)
  | n :: n' :: ns, m :: m' :: ms, r, q, h => by
    have h' : dg n ++ 44 :: (32 :: jl (n' :: ns) ++ 93 :: r) = dg m ++ 44 :: (32 :: jl (m' :: ms) ++ 93 :: q) := by
      show dg n ++ ((44 :: 32 :: jl (n' :: ns)) ++ 93 :: r) = dg m ++ ((44 :: 32 :: jl (m' :: ms)) ++ 93 :: q)
      rw [← List.append_assoc, ← List.append_assoc]
      exact h
    obtain ⟨e1, _, e3⟩ := split_dg (by decide) (by decide) h'
    injection e3 with _ e4
    obtain ⟨e5, e6⟩ := jl_inj e4
    exact ⟨by rw [e1, e5], e6⟩
theorem cl_join : ∀ ns : List Nat, cl (Str.join ", " (PyData.shownAll (ns.map fun n : Nat => (PyData.int (n : Int))))) = jl ns
  | [] => rfl
  | [n] => by
    show cl (PyData.shown (.int (n : Int))) = dg n
    rw [PyData.shown_int]
    exact cl_nat n
  | n :: m :: ns => by
    have ih := cl_join (m :: ns)
    rw [List.map_cons, PyData.shownAll_cons]
    rw [List.map_cons, PyData.shownAll_cons] at ih ⊢
    show cl (PyData.shown (.int (n : Int)) ++ ", " ++ Str.join ", " _) = _
    rw [cl_append, cl_append, ih, PyData.shown_int, cl_nat]
    show dg n ++ cl ((", " : String) : Str) ++ jl (m :: ns) = dg n ++ 44 :: 32 :: jl (m :: ns)
    rw [cl_of, List.append_assoc]
    rfl
theorem nats_of {xs : List Int} {n : Nat} (h : Asc xs n) : xs.map PyData.int = (xs.map Int.toNat).map fun k : Nat => (PyData.int (k : Int) : D) := by
  rw [List.map_map]
  refine List.map_congr_left fun x hx => ?_
  have := (h.2 x hx).1
  show PyData.int x = PyData.int ((x.toNat : Nat) : Int)
  congr 1
  omega
theorem nats_back {xs ys : List Int} {n m : Nat} (hx : Asc xs n) (hy : Asc ys m) (h : xs.map Int.toNat = ys.map Int.toNat) : xs = ys := by
  have e : ∀ {zs : List Int} {n : Nat}, Asc zs n → (zs.map Int.toNat).map (fun k : Nat => (k : Int)) = zs := by
    intro zs n hz
    rw [List.map_map]
    conv => rhs; rw [← List.map_id zs]
    refine List.map_congr_left fun x hx => ?_
    have := (hz.2 x hx).1
    show ((x.toNat : Nat) : Int) = x
    omega
  rw [← e hx, h, e hy]
theorem cl_list (xs : List D) : cl (PyData.shown (.list xs)) = 91 :: (cl (Str.join ", " (PyData.shownAll xs)) ++ [93]) := by
  rw [PyData.shown_list, cl_append, cl_append, cl_of, cl_of]
  rfl
theorem cl_set {s : DSet} (h : SetOk s) : cl (setD s).shown = 40 :: 91 :: (jl (s.early.map Int.toNat) ++ 93 :: 44 :: 32 :: (dg s.first ++ 44 :: 32 :: (dg s.len ++ 44 :: 32 :: 91 :: (jl (s.found.map Int.toNat) ++ [93, 41])))) := by
  unfold setD iL
  rw [nats_of h.early, nats_of h.found, PyData.shown_tuple, cl_append, cl_append]
  rw [PyData.shownAll_cons, PyData.shownAll_cons, PyData.shownAll_cons, PyData.shownAll_cons, PyData.shownAll_nil]
  show cl (("(" : String) : Str) ++ cl (PyData.shown _ ++ ", " ++ (PyData.shown _ ++ ", " ++ (PyData.shown _ ++ ", " ++ PyData.shown _))) ++ cl ((")" : String) : Str) = _
  rw [cl_append, cl_append, cl_append, cl_append, cl_append, cl_append, cl_list, cl_list, cl_join, cl_join, PyData.shown_int, PyData.shown_int, cl_nat, cl_nat, cl_of, cl_of, cl_of]
  show [40] ++ (91 :: (_ ++ [93]) ++ [44, 32] ++ (_ ++ [44, 32] ++ (_ ++ [44, 32] ++ 91 :: (_ ++ [93])))) ++ [41] = _
  simp
theorem shown_set_inj {s t : DSet} (hs : SetOk s) (ht : SetOk t) (h : (setD s).shown = (setD t).shown) : s = t := by
  have e := congrArg cl h
  rw [cl_set hs, cl_set ht] at e
  injection e with _ e
  injection e with _ e
  obtain ⟨e1, e⟩ := jl_inj e
  injection e with _ e
  injection e with _ e
  obtain ⟨e2, _, e⟩ := split_dg (by decide) (by decide) e
  injection e with _ e
  obtain ⟨e3, _, e⟩ := split_dg (by decide) (by decide) e
  injection e with _ e
  injection e with _ e
  obtain ⟨e4, _⟩ := jl_inj (r := [41]) (q := [41]) e
  have q1 := nats_back hs.early ht.early e1
  have q2 := nats_back hs.found ht.found e4
  cases s
  cases t
  simp only at q1 q2 e2 e3
  rw [q1, q2, e2, e3]
end LD
/-! M3: first differences, first meetings, days. -/
namespace LM
/-- two functions with rounds that agree for both rounds agree for ever -/
theorem both_rounds {f g : Nat → Int} {E p q : Nat} {a b : Int} (hp : 0 < p) (hq : 0 < q) (hf : ∀ n, E ≤ n → f (n + p) = f n + a) (hg : ∀ n, E ≤ n → g (n + q) = g n + b) (h : ∀ n, n < E + p + q → f n = g n) : ∀ n, f n = g n := by
  intro n
  induction n using Nat.strongRecOn with
  | ind n ih =>
    by_cases hn : n < E + p + q
    · exact h n hn
    · obtain ⟨m, rfl⟩ : ∃ m, n = m + p + q := ⟨n - p - q, by omega⟩
      have e0 := ih m (by omega)
      have e1 := ih (m + p) (by omega)
      have e2 := ih (m + q) (by omega)
      have f1 := hf m (by omega)
      have f2 := hf (m + q) (by omega)
      have g1 := hg m (by omega)
      have g2 := hg (m + p) (by omega)
      rw [show m + q + p = m + p + q by omega] at f2
      omega
theorem least_of {P : Nat → Prop} : ∀ n, P n → ∃ d, P d ∧ ∀ m, m < d → ¬ P m := by
  intro n
  induction n using Nat.strongRecOn with
  | ind n ih =>
    intro hn
    by_cases h : ∃ m, m < n ∧ P m
    · obtain ⟨m, hm, hP⟩ := h
      exact ih m hm hP
    · exact ⟨n, hn, fun m hm hP => h ⟨m, hm, hP⟩⟩
section
variable {s t : DSet}
theorem cnt_eq {n : Nat} (h : ∀ m, m < n → bit s m = bit t m) : cnt s n = cnt t n := by
  induction n with
  | zero => rfl
  | succ n ih =>
    show cnt s n + bit s n = cnt t n + bit t n
    rw [ih fun m hm => h m (by omega), h n (by omega)]
theorem apart_is (hs : SetOk s) (ht : SetOk t) : ((∀ n, bit s n = bit t n) ∧ unlike (bit s) (bit t) (max s.first t.first + s.len + t.len) = none ∧
      unlike (tells (countsL s)) (tells (countsL t)) (max (countsL s).early.length (countsL t).early.length + (countsL s).turn.length + (countsL t).turn.length + 1) = none) ∨
    ∃ d, bit s d ≠ bit t d ∧ d < max s.first t.first + s.len + t.len ∧ unlike (bit s) (bit t) (max s.first t.first + s.len + t.len) = some d ∧
      unlike (tells (countsL s)) (tells (countsL t)) (max (countsL s).early.length (countsL t).early.length + (countsL s).turn.length + (countsL t).turn.length + 1) = some (d + 1) := by
  have p1 : 0 < (countsL s).turn.length := (cnt_fit (a := s.first) (b := s.len) ⟨hs, Nat.le_refl _, Nat.le_refl _⟩ |> fun h => by
    show 0 < (leastWay (cntLad s)).turn.length
    rw [leastWay_turn]
    exact (leastLen_prop (rise := (cntLad s).rise) (by rw [show (cntLad s).turn.length = s.len from firstN_length _ _]; exact hs.pos)).1)
  have p2 : 0 < (countsL t).turn.length := by
    show 0 < (leastWay (cntLad t)).turn.length
    rw [leastWay_turn]
    exact (leastLen_prop (rise := (cntLad t).rise) (by rw [show (cntLad t).turn.length = t.len from firstN_length _ _]; exact ht.pos)).1
  have es : tells (countsL s) = cnt s := funext fun n => tells_counts hs n
  have et : tells (countsL t) = cnt t := funext fun n => tells_counts ht n
  have fs := fun n (hn : max (countsL s).early.length (countsL t).early.length ≤ n) => tells_add p1 (n := n) (by omega)
  have ft := fun n (hn : max (countsL s).early.length (countsL t).early.length ≤ n) => tells_add p2 (n := n) (by omega)
  rw [es] at fs ⊢
  rw [et] at ft ⊢
  generalize max (countsL s).early.length (countsL t).early.length = E at *
  generalize (countsL s).turn.length = p at *
  generalize (countsL t).turn.length = q at *
  by_cases hall : ∀ n, bit s n = bit t n
  · refine .inl ⟨hall, LD.unlike_none fun j _ => hall j, LD.unlike_none fun j _ => cnt_eq fun m _ => hall m⟩
  · obtain ⟨n0, hn0⟩ : ∃ n, bit s n ≠ bit t n := Classical.byContradiction fun z => hall fun n => Classical.byContradiction fun y => z ⟨n, y⟩
    obtain ⟨d, hd, hlt⟩ := least_of (P := fun n => bit s n ≠ bit t n) n0 hn0
    have hlt' : ∀ m, m < d → bit s m = bit t m := fun m hm => Classical.byContradiction fun z => hlt m hm z
    have hdN : d < max s.first t.first + s.len + t.len := by
      rcases Nat.lt_or_ge d (max s.first t.first + s.len + t.len) with z | z
      · exact z
      · exact absurd (both_rounds (f := bit s) (g := bit t) (a := 0) (b := 0) (E := max s.first t.first) hs.pos ht.pos (fun n hn => by rw [bit_again hs.pos (by omega)]; omega) (fun n hn => by rw [bit_again ht.pos (by omega)]; omega) (fun n hn => hlt' n (by omega)) d) hd
    have hce : ∀ m, m < d + 1 → cnt s m = cnt t m := fun m hm => cnt_eq fun j hj => hlt' j (by omega)
    have hcn : cnt s (d + 1) ≠ cnt t (d + 1) := by
      have := hce d (by omega)
      show cnt s d + bit s d ≠ cnt t d + bit t d
      omega
    refine .inr ⟨d, hd, hdN, LD.unlike_some hdN hd hlt', LD.unlike_some ?_ hcn hce⟩
    rcases Nat.lt_or_ge (d + 1) (E + p + q + 1) with z | z
    · exact z
    · exact absurd (both_rounds p1 p2 fs ft (fun n hn => hce n (by omega)) (d + 1)) hcn
theorem first_spec (h : SetOk s) : (firstDay s = none ∧ ∀ n, bit s n = 0) ∨ ∃ n, firstDay s = some n ∧ bit s n = 1 ∧ ∀ m, m < n → bit s m = 0 := by
  cases he : s.early with
  | cons x xs =>
    have hx := h.early.2 x (by rw [he]; exact List.mem_cons_self)
    have e : ((x.toNat : Nat) : Int) = x := by omega
    refine .inr ⟨x.toNat, by unfold firstDay; rw [he], ?_, fun m hm => ?_⟩
    · unfold bit
      rw [if_pos (by omega), e, he, if_pos List.mem_cons_self]
    · unfold bit
      rw [if_pos (by omega), he, if_neg]
      intro z
      rcases List.mem_cons.mp z with y | y
      · omega
      · have p := h.early.1
        rw [he] at p
        have := (List.pairwise_cons.mp p).1 _ y
        omega
  | nil =>
    cases hf : s.found with
    | cons y ys =>
      have hy := h.found.2 y (by rw [hf]; exact List.mem_cons_self)
      have e : ((y.toNat : Nat) : Int) = y := by omega
      refine .inr ⟨s.first + y.toNat, by unfold firstDay; rw [he, hf], ?_, fun m hm => ?_⟩
      · unfold bit
        rw [if_neg (by omega), show s.first + y.toNat - s.first = y.toNat by omega, Nat.mod_eq_of_lt (by omega), e, hf, if_pos List.mem_cons_self]
      · unfold bit
        by_cases hm2 : m < s.first
        · rw [if_pos hm2, he, if_neg List.not_mem_nil]
        · rw [if_neg hm2, Nat.mod_eq_of_lt (by omega), hf, if_neg]
          intro z
          rcases List.mem_cons.mp z with w | w
          · omega
          · have p := h.found.1
            rw [hf] at p
            have := (List.pairwise_cons.mp p).1 _ w
            omega
    | nil =>
      refine .inl ⟨by unfold firstDay; rw [he, hf], fun n => ?_⟩
      unfold bit
      rw [he, hf]
      split <;> rw [if_neg List.not_mem_nil]
theorem meet_is (hs : SetOk s) (ht : SetOk t) : meetS s t = firstDay (bothS s t) := by
  have hb := fun n => bit_both hs ht n
  have b1 : ∀ n, (bit s n = 1 ∧ bit t n = 1) ↔ bit (bothS s t) n = 1 := by
    intro n
    rw [hb]
    rcases bit_01 s n with z | z <;> rcases bit_01 t n with y | y <;> rw [z, y] <;> decide
  rcases first_spec (canon_both hs ht).ok with ⟨e, h⟩ | ⟨n, e, h1, h0⟩
  · rw [e]
    unfold meetS
    rw [List.find?_eq_none]
    intro m _ z
    have := (b1 m).mp (of_decide_eq_true z)
    rw [h m] at this
    exact absurd this (by decide)
  · rw [e]
    unfold meetS
    have hl := Nat.lcm_pos hs.pos ht.pos
    rw [List.find?_range_eq_some]
    refine ⟨decide_eq_true ((b1 n).mpr h1), List.mem_range.mpr ?_, fun m hm => ?_⟩
    · rcases Nat.lt_or_ge n (max s.first t.first + Nat.lcm s.len t.len) with z | z
      · exact z
      · exfalso
        have a1 := bit_more hs (n := n - Nat.lcm s.len t.len) (p := Nat.lcm s.len t.len) (by omega) (Nat.dvd_lcm_left _ _)
        have a2 := bit_more ht (n := n - Nat.lcm s.len t.len) (p := Nat.lcm s.len t.len) (by omega) (Nat.dvd_lcm_right _ _)
        rw [show n - Nat.lcm s.len t.len + Nat.lcm s.len t.len = n by omega] at a1 a2
        have := (b1 n).mpr h1
        rw [a1, a2] at this
        have h2 := (b1 _).mp this
        rw [h0 _ (by omega)] at h2
        exact absurd h2 (by decide)
    · rw [Bool.not_eq_true', decide_eq_false_iff_not]
      intro z
      have := (b1 m).mp z
      rw [h0 m hm] at this
      exact absurd this (by decide)
theorem first_bound (hs : SetOk s) (n : Nat) (h : firstDay s = some n) : n ≤ s.first + s.len := by
  unfold firstDay at h
  split at h
  · rename_i x xs he
    have := hs.early.2 x (by rw [he]; exact List.mem_cons_self)
    have := Option.some.inj h
    omega
  · split at h
    · rename_i y ys hf
      have := hs.found.2 y (by rw [hf]; exact List.mem_cons_self)
      have := Option.some.inj h
      omega
    · cases h

/-! days told one by one -/
theorem days_fit {ns : List Int} {d : Nat} (hp : ns.Pairwise (· < ·)) (h : ∀ x ∈ ns, 0 ≤ x ∧ x < (d : Int)) : SetFit (daysSet ns) d 1 ∧ ∀ n : Nat, bit (daysSet ns) n = if (n : Int) ∈ ns then 1 else 0 := by
  by_cases hn : ns = []
  · subst hn
    refine ⟨⟨⟨Nat.zero_lt_one, ⟨List.Pairwise.nil, fun _ hx => nomatch hx⟩, ⟨List.Pairwise.nil, fun _ hx => nomatch hx⟩⟩, Nat.zero_le _, Nat.le_refl 1⟩, fun n => ?_⟩
    have e : daysSet [] = ⟨[], 0, 1, []⟩ := rfl
    rw [e]
    unfold bit
    simp
  · have hpos : 0 < ns.length := List.length_pos_iff.mpr hn
    have hlast : ns.getD (ns.length - 1) 0 ∈ ns := by
      rw [List.getD_eq_getElem?_getD, List.getElem?_eq_getElem (by omega)]
      exact List.getElem_mem _
    have hmax : ∀ x ∈ ns, x ≤ ns.getD (ns.length - 1) 0 := by
      intro x hx
      obtain ⟨i, hi, rfl⟩ := List.getElem_of_mem hx
      rw [List.getD_eq_getElem?_getD, List.getElem?_eq_getElem (by omega : ns.length - 1 < ns.length)]
      show ns[i] ≤ ns[ns.length - 1]
      by_cases hi2 : i = ns.length - 1
      · subst hi2
        exact Int.le_refl _
      · exact Int.le_of_lt (List.pairwise_iff_getElem.mp hp i (ns.length - 1) hi (by omega) (by omega))
    have hl := h _ hlast
    have hf : (daysSet ns).first = (ns.getD (ns.length - 1) 0 + 1).toNat := by
      show (if ns = [] then 0 else (ns.getD (ns.length - 1) 0 + 1).toNat) = _
      rw [if_neg hn]
    refine ⟨⟨⟨Nat.zero_lt_one, ⟨hp, fun x hx => ?_⟩, ⟨List.Pairwise.nil, fun _ hx => nomatch hx⟩⟩, ?_, Nat.le_refl 1⟩, fun n => ?_⟩
    · have := hmax x hx
      have := h x hx
      rw [hf]
      omega
    · rw [hf]
      omega
    · unfold bit
      rw [hf]
      by_cases hlt : n < (ns.getD (ns.length - 1) 0 + 1).toNat
      · rw [if_pos hlt]
        rfl
      · rw [if_neg hlt, if_neg]
        · show (0 : Int) = if _ then 1 else 0
          rw [if_neg]
          intro z
          have := hmax _ z
          omega
        · show ¬ _ ∈ ([] : List Int)
          exact List.not_mem_nil
def downS (d : Nat) (s : DSet) : DSet := if d = 0 then laterS 0 s else earlierS d s
theorem bit_down (hs : SetOk s) (d n : Nat) : bit (downS d s) n = bit s (n + d) := by
  unfold downS
  split
  · rename_i h
    rw [bit_later hs, h, if_neg (Nat.not_lt_zero _)]
    rfl
  · exact bit_earlier hs d n
theorem canon_down (hs : SetOk s) (d : Nat) : Canon (downS d s) := by
  unfold downS
  split
  · exact canon_later hs 0
  · exact canon_earlier hs d
theorem fit_down {a b : Nat} (hs : SetFit s a b) (d : Nat) : SetFit (downS d s) a b := by
  unfold downS
  split
  · exact (fit_later hs 0).mono (by omega) (Nat.le_refl _)
  · exact fit_earlier hs d
theorem cnt_later (hs : SetOk s) (d : Nat) : ∀ n, cnt (laterS d s) (d + n) = cnt s n := by
  have z : ∀ m, m ≤ d → cnt (laterS d s) m = 0 := by
    intro m
    induction m with
    | zero => intro _; rfl
    | succ m ih =>
      intro h
      show cnt (laterS d s) m + bit (laterS d s) m = 0
      rw [ih (by omega), bit_later hs, if_pos (by omega)]
      rfl
  intro n
  induction n with
  | zero => exact z d (Nat.le_refl d)
  | succ n ih =>
    show cnt (laterS d s) (d + n) + bit (laterS d s) (d + n) = cnt s n + bit s n
    rw [ih, bit_later hs, if_neg (by omega), show d + n - d = n by omega]
theorem cnt_down (hs : SetOk s) (d : Nat) : ∀ n, cnt (downS d s) n + cnt s d = cnt s (d + n) := by
  intro n
  induction n with
  | zero =>
    show 0 + cnt s d = cnt s d
    omega
  | succ n ih =>
    show cnt (downS d s) n + bit (downS d s) n + cnt s d = cnt s (d + n) + bit s (d + n)
    rw [bit_down hs, Nat.add_comm n d]
    omega
end

/-! ladders of counts -/
section
variable {u v : DSet} {a b c d : Nat}
theorem cnt_pos (hu : SetOk u) : 0 < (countsL u).turn.length := (cnt_fit (a := u.first) (b := u.len) ⟨hu, Nat.le_refl _, Nat.le_refl _⟩ |> fun _ => by
  show 0 < (leastWay (cntLad u)).turn.length
  rw [leastWay_turn]
  exact (leastLen_prop (rise := (cntLad u).rise) (by rw [show (cntLad u).turn.length = u.len from firstN_length _ _]; exact hu.pos)).1)
theorem tells_sum (hu : SetOk u) (hv : SetOk v) (n : Nat) : tells (addLad (countsL u) (countsL v)) n = cnt u n + cnt v n := by
  rw [tells_addLad (cnt_pos hu) (cnt_pos hv), tells_counts hu, tells_counts hv]
theorem add_pos (hu : 0 < l.turn.length) (hv : 0 < k.turn.length) : 0 < (addLad l k).turn.length := by
  rw [add_turn]
  exact Nat.lcm_pos hu hv
theorem sum_bits {s t : DSet} (h : ∀ n, bit u n + bit v n = bit s n + bit t n) (n : Nat) : cnt u n + cnt v n = cnt s n + cnt t n := by
  induction n with
  | zero => rfl
  | succ n ih =>
    have := h n
    show cnt u n + bit u n + (cnt v n + bit v n) = cnt s n + bit s n + (cnt t n + bit t n)
    omega
theorem sum_bit {s : DSet} (h : ∀ n, bit u n + bit v n = bit s n) (n : Nat) : cnt u n + cnt v n = cnt s n := by
  induction n with
  | zero => rfl
  | succ n ih =>
    have := h n
    show cnt u n + bit u n + (cnt v n + bit v n) = cnt s n + bit s n
    omega
theorem sum_one (h : ∀ n, bit u n + bit v n = 1) (n : Nat) : cnt u n + cnt v n = (n : Int) := by
  induction n with
  | zero => rfl
  | succ n ih =>
    have := h n
    show cnt u n + bit u n + (cnt v n + bit v n) = _
    omega
theorem add_same {s t : DSet} (hu : SetOk u) (hv : SetOk v) (hs : SetOk s) (ht : SetOk t) (h : ∀ n, bit u n + bit v n = bit s n + bit t n) : leastWay (addLad (countsL u) (countsL v)) = leastWay (addLad (countsL s) (countsL t)) :=
  leastWay_congr (add_pos (cnt_pos hu) (cnt_pos hv)) (add_pos (cnt_pos hs) (cnt_pos ht)) fun n => by rw [tells_sum hu hv, tells_sum hs ht, sum_bits h]
theorem add_counts {s : DSet} (hu : SetOk u) (hv : SetOk v) (hs : SetOk s) (h : ∀ n, bit u n + bit v n = bit s n) : leastWay (addLad (countsL u) (countsL v)) = countsL s :=
  leastWay_congr (add_pos (cnt_pos hu) (cnt_pos hv)) (by rw [show (cntLad s).turn.length = s.len from firstN_length _ _]; exact hs.pos) fun n => by rw [tells_sum hu hv, tells_cntLad hs, sum_bit h]
theorem same_least : leastWay ⟨[], [0], 1⟩ = ⟨[], [0], 1⟩ := by decide +kernel
theorem add_one (hu : SetOk u) (hv : SetOk v) (h : ∀ n, bit u n + bit v n = 1) : leastWay (addLad (countsL u) (countsL v)) = ⟨[], [0], 1⟩ := by
  rw [← same_least]
  refine leastWay_congr (add_pos (cnt_pos hu) (cnt_pos hv)) (show 0 < 1 by decide) fun n => ?_
  rw [tells_sum hu hv, sum_one h, show (⟨[], [0], 1⟩ : Lad) = ⟨[], [((0 : Nat) : Int)], 1⟩ from rfl, LD.tells_shift, Nat.zero_add]
end
end LM
/-! L1: what the law asks of two sets. -/
namespace LD
open PySem PySem.Spec PyProof.Rows L2 LM
abbrev FS (u : DSet) : Prop := SetFit u 1000 300
theorem FS.bt {u : DSet} (h : FS u) : SetFit u BE BT := h.mono (Nat.le_refl _) (by decide)
theorem FS.two {u v : DSet} (h : FS u) (k : FS v) : TwoSets u v := ⟨h.bt, k.bt, Nat.le_trans (lcm_le h.ok.pos k.ok.pos h.len k.len) (by decide)⟩
theorem FS.cok {u : DSet} (h : FS u) : LadOk (countsL u) BE BT := counts_ok h (Nat.le_refl _) (by decide)
section
variable {K : PySem.W.Frag} {δ : DE} {ta tb : TE} {d : D} {u v : DSet}
theorem et_reprNe (ok : ReprOk d) (ha : EvD ta δ d) (hb : EvD tb δ d) : EvT (tTest (tOp rNe (tCB (rRepr K) (tCons ta tNil)) (tCB (rRepr K) (tCons tb tNil)))) δ false :=
  (et_test (ev_neS (ev_reprO ha ok) (ev_reprO hb ok))).to (by rw [decide_eq_true rfl]; rfl)
theorem ev_reprEq (ok : ReprOk d) (ha : EvD ta δ d) (hb : EvD tb δ d) : EvD (tOp rEq (tCB (rRepr K) (tCons ta tNil)) (tCB (rRepr K) (tCons tb tNil))) δ (.bool true) :=
  (ev_eqS (ev_reprO ha ok) (ev_reprO hb ok)).to (by rw [decide_eq_true rfl])
theorem c_counts (ha : EvD ta δ (setD u)) (hu : FS u) : EvD (tCall sp_counts [] E0 (tCons ta tNil)) δ (ladD (countsL u)) := ev_call (ea_cons ha ea_nil) ⟨u, rfl, hu.bt, rfl⟩
theorem c_others (ha : EvD ta δ (setD u)) (hu : FS u) : EvD (tCall sp_others [] E0 (tCons ta tNil)) δ (setD (othersS u)) := ev_call (ea_cons ha ea_nil) ⟨u, rfl, hu.bt, rfl⟩
theorem c_least (ha : EvD ta δ (setD u)) (hu : FS u) : EvD (tCall sp_least_set [] E0 (tCons ta tNil)) δ (setD (leastS u)) := ev_call (ea_cons ha ea_nil) ⟨u, rfl, hu.bt, rfl⟩
theorem c_both (ha : EvD ta δ (setD u)) (hb : EvD tb δ (setD v)) (hu : FS u) (hv : FS v) : EvD (tCall sp_both [] E0 (tCons ta (tCons tb tNil))) δ (setD (bothS u v)) := ev_call (ea_cons ha (ea_cons hb ea_nil)) ⟨u, v, rfl, hu.two hv, rfl⟩
theorem c_either (ha : EvD ta δ (setD u)) (hb : EvD tb δ (setD v)) (hu : FS u) (hv : FS v) : EvD (tCall sp_either [] E0 (tCons ta (tCons tb tNil))) δ (setD (eitherS u v)) := ev_call (ea_cons ha (ea_cons hb ea_nil)) ⟨u, v, rfl, hu.two hv, rfl⟩
theorem c_but (ha : EvD ta δ (setD u)) (hb : EvD tb δ (setD v)) (hu : FS u) (hv : FS v) : EvD (tCall sp_but [] E0 (tCons ta (tCons tb tNil))) δ (setD (butS u v)) := ev_call (ea_cons ha (ea_cons hb ea_nil)) ⟨u, v, rfl, hu.two hv, rfl⟩
theorem two_lcm (hu : FS u) (hv : FS v) : Nat.lcm (countsL u).turn.length (countsL v).turn.length ≤ BT :=
  Nat.le_trans (lcm_le (cnt_fit hu (by decide)).pos (cnt_fit hv (by decide)).pos (cnt_fit hu (by decide)).turn (cnt_fit hv (by decide)).turn) (by decide)
theorem two_rise (hu : FS u) (hv : FS v) : (addLad (countsL u) (countsL v)).rise < 1099511627776 :=
  add_rise (a := 300) (b := 300) (c := 300) (d := 300) (cnt_fit hu (by decide)).pos (cnt_fit hv (by decide)).pos (counts_rise hu).1 (counts_rise hu).2 (counts_rise hv).1 (counts_rise hv).2 (cnt_fit hu (by decide)).turn (cnt_fit hv (by decide)).turn (by decide)
theorem c_plus (ha : EvD ta δ (ladD (countsL u))) (hb : EvD tb δ (ladD (countsL v))) (hu : FS u) (hv : FS v) : EvD (tCall sp_plus [] E0 (tCons ta (tCons tb tNil))) δ (ladD (leastWay (addLad (countsL u) (countsL v)))) :=
  ev_call (ea_cons ha (ea_cons hb ea_nil)) ⟨countsL u, countsL v, rfl, hu.cok, hv.cok, two_lcm hu hv, two_rise hu hv, rfl⟩
theorem c_less (ha : EvD ta δ (ladD (countsL u))) (hb : EvD tb δ (ladD (countsL v))) (hu : FS u) (hv : FS v) (h : ∀ n, bit v n ≤ bit u n) : EvD (tCall sp_first_less [] E0 (tCons ta (tCons tb tNil))) δ .none :=
  ev_call (ea_cons ha (ea_cons hb ea_nil)) ⟨countsL u, countsL v, rfl, hu.cok, hv.cok, two_lcm hu hv, fun n => by
    rw [tells_counts hu.ok, tells_counts hv.ok]
    induction n with
    | zero => exact Int.le_refl 0
    | succ n ih =>
      have := h n
      show cnt v n + bit v n ≤ cnt u n + bit u n
      omega, rfl⟩
theorem sml_cnt (u : DSet) {n : Nat} (h : n ≤ 100000) : Sml (cnt u n) := by
  have := cnt_bound u n
  omega
theorem repr_counts {a b : Nat} (hu : SetFit u a b) (ha : a ≤ 50000) (hb : b ≤ 50000) : ReprOk (ladD (countsL u)) := by
  have f := cntLad_fit hu (by omega : b ≤ 1000000)
  have s := sum_01 (f := fun i => bit u (u.first + i)) (fun i => bit_01 u _) u.len
  have hl := hu.len
  refine repr_least f.pos (Nat.le_trans f.early ha) (Nat.le_trans f.turn hb) (fun n hn => by rw [tells_cntLad hu.ok]; exact sml_cnt u hn) s.1 ?_
  show (firstN (fun i => bit u (u.first + i)) u.len).sum ≤ _
  omega
/-- rests[i], counted with the common days, is the set's count; and so on -/
theorem w_sums_body {i : Nat} {S0 T0 W0 : D} {x : Option D} {Lns Rst : List D} {u v c : DSet} (hu : FS u) (hv : FS v) (hc : FS c) (hr : FS (butS u v)) (bc : ∀ n, bit c n = bit u n * bit v n) (hL : atI Lns (i : Int) = some (ladD (countsL u))) (hR : atI Rst (i : Int) = some (setD (butS u v))) :
    W (tSeq (tIfS (tTest (tOp rNe (tCB (rRepr K) (tCons (tCall sp_plus [] E0 (tCons (tCall sp_counts [] E0 (tCons (tOp (rIxL K) (tVar 4) (tVar 7)) tNil)) (tCons (tCall sp_counts [] E0 (tCons (tVar 5) tNil)) tNil))) tNil)) (tCB (rRepr K) (tCons (tOp (rIxL K) (tVar 3) (tVar 7)) tNil)))) (tRet (tC (.bl false))) tNext)
    (tSeq (tIfS (tTest (tOp rNe (tCB (rRepr K) (tCons (tCall sp_plus [] E0 (tCons (tOp (rIxL K) (tVar 3) (tVar 7)) (tCons (tCall sp_counts [] E0 (tCons (tCall sp_others [] E0 (tCons (tVar 8) tNil)) tNil)) tNil))) tNil)) (tCB (rRepr K) (tCons (tVar 2) tNil)))) (tRet (tC (.bl false))) tNext)
    (tSeq (tAsg (tCall sp_least_set [] E0 (tCons (tVar 8) tNil)) (gName 9))
    (tIfS (tTest (tOp rNe (tCB (rRepr K) (tCons (tLst (tCons (tCall sp_others [] E0 (tCons (tCall sp_others [] E0 (tCons (tVar 8) tNil)) tNil)) (tCons (tCall sp_either [] E0 (tCons (tVar 5) (tCons (tOp (rIxL K) (tVar 4) (tVar 7)) tNil))) tNil))) tNil)) (tCB (rRepr K) (tCons (tLst (tCons (tVar 9) (tCons (tVar 9) tNil))) tNil)))) (tRet (tC (.bl false))) tNext))))
    [some S0, some T0, some (ladD ⟨[], [0], 1⟩), some (.list Lns), some (.list Rst), some (setD c), some W0, some (.int (i : Int)), some (setD u), x]
    (fun δ => ∃ y, δ = [some S0, some T0, some (ladD ⟨[], [0], 1⟩), some (.list Lns), some (.list Rst), some (setD c), some W0, some (.int (i : Int)), some (setD u), y]) no no (fun d => d = .bool true) := by
  have b01u := bit_01 u
  have b01v := bit_01 v
  have ho : FS (othersS u) := fit_others hu
  have bb := bit_but hu.ok hv.ok
  have e1 : leastWay (addLad (countsL (butS u v)) (countsL c)) = countsL u := add_counts hr.ok hc.ok hu.ok fun n => by
    rw [bb, bc]
    rcases b01u n with z | z <;> rcases b01v n with y | y <;> rw [z, y] <;> decide
  have e2 : leastWay (addLad (countsL u) (countsL (othersS u))) = ⟨[], [0], 1⟩ := add_one hu.ok ho.ok fun n => by
    rw [bit_others hu.ok]
    omega
  have e3 : othersS (othersS u) = leastS u := canon_ext (canon_others ho.ok) (canon_least hu.ok) fun n => by
    rw [bit_others ho.ok, bit_others hu.ok, bit_least hu.ok]
    omega
  have e4 : eitherS c (butS u v) = leastS u := canon_ext (canon_either hc.ok hr.ok) (canon_least hu.ok) fun n => by
    rw [bit_either hc.ok hr.ok, bb, bc, bit_least hu.ok]
    rcases b01u n with z | z <;> rcases b01v n with y | y <;> rw [z, y] <;> decide
  have ix3 : ∀ {y : Option D}, EvD (tOp (rIxL K) (tVar 3) (tVar 7)) [some S0, some T0, some (ladD ⟨[], [0], 1⟩), some (.list Lns), some (.list Rst), some (setD c), some W0, some (.int (i : Int)), some (setD u), y] (ladD (countsL u)) := ev_ixL (ev_var rfl) (ev_var rfl) hL
  have ix4 : ∀ {y : Option D}, EvD (tOp (rIxL K) (tVar 4) (tVar 7)) [some S0, some T0, some (ladD ⟨[], [0], 1⟩), some (.list Lns), some (.list Rst), some (setD c), some W0, some (.int (i : Int)), some (setD u), y] (setD (butS u v)) := ev_ixL (ev_var rfl) (ev_var rfl) hR
  refine x_if (et_reprNe (d := ladD (countsL u)) (repr_counts hu (by decide) (by decide)) ((c_plus (c_counts ix4 hr) (c_counts (ev_var rfl) hc) hr hc).to (by rw [e1])) ix3) (fun e => nomatch e) fun _ => ?_
  refine x_if (et_reprNe (d := ladD ⟨[], [0], 1⟩) (repr_lad (fun x hx => nomatch hx) (fun x hx => by rw [List.mem_singleton.mp hx]; decide) (by decide) (by decide) (by decide)) ((c_plus ix3 (c_counts (c_others (ev_var rfl) hu) ho) hu ho).to (by rw [e2])) (ev_var rfl)) (fun e => nomatch e) fun _ => ?_
  refine x_set (c_least (ev_var rfl) hu) ?_
  refine w_if (et_reprNe (d := .list [setD (leastS u), setD (leastS u)]) (repr_sets (fit_row hu) (by decide) (by decide) (fit_row hu) (by decide) (by decide)) ((ev_lst (ea_cons (c_others (c_others (ev_var rfl) hu) ho) (ea_cons (c_either (ev_var rfl) ix4 hc hr) ea_nil))).to (by rw [e3, e4])) (ev_lst (ea_cons (ev_var rfl) (ea_cons (ev_var rfl) ea_nil)))) (fun e => nomatch e) fun _ => w_next ⟨_, rfl⟩
theorem w_z_sums_right (ds : List D) (r : D) (h : S_z_sums_right ds r) : W (t_z_sums_right K) (startD 10 ds) (fun _ => r = .none) no no (fun d => d = r) := by
  obtain ⟨s, t, rfl, h1, h2, rfl⟩ := h
  have hs : FS s := h1.mono (by decide) (by decide)
  have ht : FS t := h2.mono (by decide) (by decide)
  have hc0 : SetFit (bothS s t) 15 288 := fit_mix h1 h2
  have hw0 : SetFit (eitherS s t) 15 288 := fit_mix h1 h2
  have hr0 : SetFit (butS s t) 15 288 := fit_mix h1 h2
  have hq0 : SetFit (butS t s) 15 288 := fit_mix h2 h1
  have hc : FS (bothS s t) := hc0.mono (by decide) (by decide)
  have hw : FS (eitherS s t) := hw0.mono (by decide) (by decide)
  have hr : FS (butS s t) := hr0.mono (by decide) (by decide)
  have hq : FS (butS t s) := hq0.mono (by decide) (by decide)
  have bs := bit_01 s
  have bt := bit_01 t
  have bc := bit_both hs.ok ht.ok
  have bw := bit_either hs.ok ht.ok
  have cc := canon_both hs.ok ht.ok
  have cw := canon_either hs.ok ht.ok
  have e1 : leastWay (addLad (countsL (eitherS s t)) (countsL (bothS s t))) = leastWay (addLad (countsL s) (countsL t)) := add_same hw.ok hc.ok hs.ok ht.ok fun n => by
    rw [bc, bw]
    rcases bs n with z | z <;> rcases bt n with y | y <;> rw [z, y] <;> decide
  have e5 : leastS (eitherS s t) = eitherS s t := canon_ext (canon_least hw.ok) cw fun n => bit_least hw.ok n
  have e6 : leastS (bothS s t) = bothS s t := canon_ext (canon_least hc.ok) cc fun n => bit_least hc.ok n
  have lcs := cnt_fit h1 (by decide)
  have lct := cnt_fit h2 (by decide)
  have ok1 : ReprOk (ladD (leastWay (addLad (countsL s) (countsL t)))) := by
    have p := add_pos lcs.pos lct.pos
    have tl := lcm_le lcs.pos lct.pos lcs.turn lct.turn
    have el := lcs.early
    have el2 := lct.early
    have rs := counts_rise h1
    have rt := counts_rise h2
    refine repr_least p (by rw [add_early]; omega) (by rw [add_turn]; omega) (fun n hn => ?_) ?_ ?_
    · rw [tells_sum hs.ok ht.ok]
      have := cnt_bound s n
      have := cnt_bound t n
      omega
    · exact (add_fit (l := countsL s) (k := countsL t) (e := 15) (a := 12) (b := 24) (t := 1000000) ⟨lcs.pos, Nat.le_trans lcs.early (by decide), lcs.turn, lcs.r0, lcs.r1⟩ lct (by omega) (two_rise hs ht)).r0
    · have := add_rise (l := countsL s) (k := countsL t) (a := 12) (b := 24) (c := 12) (d := 24) lcs.pos lct.pos rs.1 rs.2 rt.1 rt.2 lcs.turn lct.turn (by decide)
      show (countsL s).rise * ((Nat.lcm (countsL s).turn.length (countsL t).turn.length / (countsL s).turn.length : Nat) : Int) + (countsL t).rise * ((Nat.lcm (countsL s).turn.length (countsL t).turn.length / (countsL t).turn.length : Nat) : Int) ≤ _
      have d1 := Nat.div_le_self (Nat.lcm (countsL s).turn.length (countsL t).turn.length) (countsL s).turn.length
      have d2 := Nat.div_le_self (Nat.lcm (countsL s).turn.length (countsL t).turn.length) (countsL t).turn.length
      generalize Nat.lcm (countsL s).turn.length (countsL t).turn.length / (countsL s).turn.length = x at *
      generalize Nat.lcm (countsL s).turn.length (countsL t).turn.length / (countsL t).turn.length = y at *
      have m1 : (countsL s).rise * (x : Int) ≤ 12 * 288 := Int.mul_le_mul rs.2 (by omega) (by omega) (by omega)
      have m2 : (countsL t).rise * (y : Int) ≤ 24 * 288 := Int.mul_le_mul rt.2 (by omega) (by omega) (by omega)
      omega
  refine x_set (d := ladD ⟨[], [0], 1⟩) (ev_tup (ea_cons (ev_lst ea_nil) (ea_cons (ev_lst (ea_cons ev_int ea_nil)) (ea_cons ev_int ea_nil)))) ?_
  refine x_par (d1 := .list [ladD (countsL s), ladD (countsL t)]) (d2 := .list [setD (butS s t), setD (butS t s)]) (ea_cons (ev_lst (ea_cons (c_counts (ev_var rfl) hs) (ea_cons (c_counts (ev_var rfl) ht) ea_nil))) (ea_cons (ev_lst (ea_cons (c_but (ev_var rfl) (ev_var rfl) hs ht) (ea_cons (c_but (ev_var rfl) (ev_var rfl) ht hs) ea_nil))) ea_nil)) ?_
  refine x_par (ea_cons (c_both (ev_var rfl) (ev_var rfl) hs ht) (ea_cons (c_either (ev_var rfl) (ev_var rfl) hs ht) ea_nil)) ?_
  refine x_if (et_reprNe ok1 ((c_plus (c_counts (ev_var rfl) hw) (c_counts (ev_var rfl) hc) hw hc).to (by rw [e1])) (c_plus (ev_ixL (ev_var rfl) ev_int rfl) (ev_ixL (ev_var rfl) ev_int rfl) hs ht)) (fun e => nomatch e) fun _ => ?_
  refine w_seq (M := fun δ => ∃ x y z, δ = [some (setD s), some (setD t), some (ladD ⟨[], [0], 1⟩), some (.list [ladD (countsL s), ladD (countsL t)]), some (.list [setD (butS s t), setD (butS t s)]), some (setD (bothS s t)), some (setD (eitherS s t)), x, y, z])
    (w_for (fun i δ => ∃ x y z, δ = [some (setD s), some (setD t), some (ladD ⟨[], [0], 1⟩), some (.list [ladD (countsL s), ladD (countsL t)]), some (.list [setD (butS s t), setD (butS t s)]), some (setD (bothS s t)), some (setD (eitherS s t)), x, y, z])
      (ei_enum (xs := [setD s, setD t]) (ev_lst (ea_cons (ev_var rfl) (ea_cons (ev_var rfl) ea_nil)))) ⟨none, none, none, rfl⟩ ?_ fun δ h => h) ?_
  · rintro i δ d hd ⟨x, y, z, rfl⟩
    have hcase : (i = 0 ∧ d = .tuple [.int ((0 : Nat) : Int), setD s]) ∨ (i = 1 ∧ d = .tuple [.int ((1 : Nat) : Int), setD t]) := by
      match i, hd with
      | 0, hd => exact .inl ⟨rfl, (Option.some.inj hd).symm⟩
      | 1, hd => exact .inr ⟨rfl, (Option.some.inj hd).symm⟩
      | n + 2, hd => cases hd
    rcases hcase with ⟨rfl, rfl⟩ | ⟨rfl, rfl⟩
    · refine ⟨_, _, as_tup (as_cons as_name (as_cons as_name as_nil)), (w_sums_body (K := K) (i := 0) hs ht hc hr bc rfl rfl).imp (fun δ h => ?_) (fun _ h => h.elim) (fun _ h => h.elim) fun _ h => h⟩
      obtain ⟨y, rfl⟩ := h
      exact ⟨_, _, _, rfl⟩
    · refine ⟨_, _, as_tup (as_cons as_name (as_cons as_name as_nil)), (w_sums_body (K := K) (i := 1) ht hs hc hq (fun n => by rw [bc, Int.mul_comm]) rfl rfl).imp (fun δ h => ?_) (fun _ h => h.elim) (fun _ h => h.elim) fun _ h => h⟩
      obtain ⟨y, rfl⟩ := h
      exact ⟨_, _, _, rfl⟩
  · rintro δ ⟨x, y, z, rfl⟩
    refine x_if (et_or (et_B (ev_notN (c_less (ev_ixL (ev_var rfl) ev_int rfl) (c_counts (ev_var rfl) hc) hs hc fun n => by
      rw [bc]
      rcases bs n with z | z <;> rcases bt n with y | y <;> rw [z, y] <;> decide))) fun _ => et_B (ev_notN (c_less (c_counts (ev_var rfl) hw) (ev_ixL (ev_var rfl) ev_int rfl) hw ht fun n => by
      rw [bw]
      rcases bs n with z | z <;> rcases bt n with y | y <;> rw [z, y] <;> decide))) (fun e => nomatch e) fun _ => ?_
    exact w_ret (ev_reprEq (d := .list [setD (eitherS s t), setD (bothS s t)]) (repr_sets hw0 (by decide) (by decide) hc0 (by decide) (by decide)) ((ev_lst (ea_cons (c_least (ev_var rfl) hw) (ea_cons (c_least (ev_var rfl) hc) ea_nil))).to (by rw [e5, e6])) (ev_lst (ea_cons (ev_var rfl) (ea_cons (ev_var rfl) ea_nil)))) rfl
theorem ev_int1 {n : Nat} {te : TE} (h : EvD te δ (.int ((n + 1 : Nat) : Int))) : EvD (tOp rSub te (tC (.int 1))) δ (.int (n : Int)) := (ev_sub h ev_int).to (by congr 1; omega)
theorem w_z_turned_right (ds : List D) (r : D) (h : S_z_turned_right ds r) : W (t_z_turned_right K) (startD 6 ds) (fun _ => r = .none) no no (fun d => d = r) := by
  obtain ⟨s, t, rfl, h1, h2, rfl⟩ := h
  have hs : FS s := h1.mono (by decide) (by decide)
  have ht : FS t := h2.mono (by decide) (by decide)
  have os0 : SetFit (othersS s) 8 12 := fit_others h1
  have ot0 : SetFit (othersS t) 15 24 := fit_others h2
  have os : FS (othersS s) := os0.mono (by decide) (by decide)
  have ot : FS (othersS t) := ot0.mono (by decide) (by decide)
  have hc0 : SetFit (bothS s t) 15 288 := fit_mix h1 h2
  have hw0 : SetFit (eitherS s t) 15 288 := fit_mix h1 h2
  have hr0 : SetFit (butS s t) 15 288 := fit_mix h1 h2
  have hb0 : SetFit (bothS (othersS s) (othersS t)) 15 288 := fit_mix os0 ot0
  have he0 : SetFit (eitherS (othersS t) (othersS s)) 15 288 := fit_mix ot0 os0
  have hc : FS (bothS s t) := hc0.mono (by decide) (by decide)
  have hw : FS (eitherS s t) := hw0.mono (by decide) (by decide)
  have bs := bit_01 s
  have bt := bit_01 t
  have e1 : othersS (eitherS s t) = bothS (othersS s) (othersS t) := canon_ext (canon_others hw.ok) (canon_both os.ok ot.ok) fun n => by
    rw [bit_others hw.ok, bit_either hs.ok ht.ok, bit_both os.ok ot.ok, bit_others hs.ok, bit_others ht.ok]
    rcases bs n with z | z <;> rcases bt n with y | y <;> rw [z, y] <;> decide
  have e2 : othersS (bothS s t) = eitherS (othersS t) (othersS s) := canon_ext (canon_others hc.ok) (canon_either ot.ok os.ok) fun n => by
    rw [bit_others hc.ok, bit_both hs.ok ht.ok, bit_either ot.ok os.ok, bit_others hs.ok, bit_others ht.ok]
    rcases bs n with z | z <;> rcases bt n with y | y <;> rw [z, y] <;> decide
  have e3 : butS (othersS t) (othersS s) = butS s t := canon_ext (canon_but ot.ok os.ok) (canon_but hs.ok ht.ok) fun n => by
    rw [bit_but ot.ok os.ok, bit_but hs.ok ht.ok, bit_others hs.ok, bit_others ht.ok]
    rcases bs n with z | z <;> rcases bt n with y | y <;> rw [z, y] <;> decide
  have e4 : bothS s (othersS t) = butS s t := canon_ext (canon_both hs.ok ot.ok) (canon_but hs.ok ht.ok) fun n => by
    rw [bit_both hs.ok ot.ok, bit_but hs.ok ht.ok, bit_others ht.ok]
  refine x_set (d := .list [setD (othersS s), setD (othersS t)]) (ev_lst (ea_cons (c_others (ev_var rfl) hs) (ea_cons (c_others (ev_var rfl) ht) ea_nil))) ?_
  refine x_set (d := .list [setD (bothS (othersS s) (othersS t)), setD (eitherS (othersS t) (othersS s))]) (ev_lst (ea_cons (c_both (ev_ixL (ev_var rfl) ev_int rfl) (ev_ixL (ev_var rfl) ev_int rfl) os ot) (ea_cons (c_either (ev_ixL (ev_var rfl) ev_int rfl) (ev_ixL (ev_var rfl) ev_int rfl) ot os) ea_nil))) ?_
  refine x_if (et_reprNe (repr_sets hb0 (by decide) (by decide) he0 (by decide) (by decide)) ((ev_lst (ea_cons (c_others (c_either (ev_var rfl) (ev_var rfl) hs ht) hw) (ea_cons (c_others (c_both (ev_var rfl) (ev_var rfl) hs ht) hc) ea_nil))).to (by rw [e1, e2])) (ev_var rfl)) (fun e => nomatch e) fun _ => ?_
  refine x_if (et_reprNe (d := .list [setD (butS s t), setD (butS s t)]) (repr_sets hr0 (by decide) (by decide) hr0 (by decide) (by decide)) ((ev_lst (ea_cons (c_but (ev_var rfl) (ev_var rfl) hs ht) (ea_cons (c_but (ev_ixL (ev_var rfl) ev_int rfl) (ev_ixL (ev_var rfl) ev_int rfl) ot os) ea_nil))).to (by rw [e3]))
    ((ev_lst (ea_cons (c_both (ev_var rfl) (ev_ixL (ev_var rfl) ev_int rfl) hs ot) (ea_cons (c_but (ev_var rfl) (ev_var rfl) hs ht) ea_nil))).to (by rw [e4]))) (fun e => nomatch e) fun _ => ?_
  have apart := apart_is hs.ok ht.ok
  refine x_par (d1 := optD (unlike (tells (countsL s)) (tells (countsL t)) (max (countsL s).early.length (countsL t).early.length + (countsL s).turn.length + (countsL t).turn.length + 1))) (d2 := optD (unlike (bit s) (bit t) (max s.first t.first + s.len + t.len)))
    (ea_cons (ev_call (ea_cons (c_counts (ev_var rfl) hs) (ea_cons (c_counts (ev_var rfl) ht) ea_nil)) ⟨countsL s, countsL t, rfl, hs.cok, ht.cok, rfl⟩) (ea_cons (ev_call (ea_cons (ev_var rfl) (ea_cons (ev_var rfl) ea_nil)) ⟨s, t, rfl, hs.bt, ht.bt, rfl⟩) ea_nil)) ?_
  have ca : ∀ {δ : DE} {ta tb : TE}, EvD ta δ (ladD (countsL s)) → EvD tb δ (ladD (countsL t)) → EvD (tCall sp_alike [] E0 (tCons ta (tCons tb tNil))) δ (.bool (unlike (tells (countsL s)) (tells (countsL t)) (max (countsL s).early.length (countsL t).early.length + (countsL s).turn.length + (countsL t).turn.length + 1)).isNone) :=
    fun ha hb => ev_call (ea_cons ha (ea_cons hb ea_nil)) ⟨countsL s, countsL t, rfl, hs.cok, ht.cok, rfl⟩
  have rs := repr_set (fit_row h1) (by decide) (by decide)
  have rt := repr_set (fit_row h2) (by decide) (by decide)
  have okm : ReprOk (optD (meetS s t)) := by
    rw [meet_is hs.ok ht.ok]
    exact repr_opt fun n hn => by
      have := first_bound hc.ok n hn
      have := hc0.first
      have := hc0.len
      omega
  have fin : ∀ δ : DE, δ[0]? = some (some (setD s)) → δ[1]? = some (some (setD t)) → EvD (tOp rEq (tCB (rRepr K) (tCons (tCall sp_meeting [] E0 (tCons (tVar 0) (tCons (tVar 1) tNil))) tNil)) (tCB (rRepr K) (tCons (tCall sp_next_day [] E0 (tCons (tCall sp_both [] E0 (tCons (tVar 0) (tCons (tVar 1) tNil))) (tCons (tC (.int 0)) tNil))) tNil))) δ (.bool true) :=
    fun δ q0 q1 => ev_reprEq okm (ev_call (ea_cons (ev_var q0) (ea_cons (ev_var q1) ea_nil)) ⟨s, t, rfl, hs.two ht, rfl⟩) ((ev_call (ea_cons (c_both (ev_var q0) (ev_var q1) hs ht) (ea_cons ev_int ea_nil)) ⟨bothS s t, rfl, hc.bt, rfl⟩).to (by rw [meet_is hs.ok ht.ok]))
  rcases apart with ⟨hall, u1, u2⟩ | ⟨d, hd, dN, u1, u2⟩
  · rw [u1, u2]
    rw [u2] at ca
    have es : leastS s = leastS t := canon_ext (canon_least hs.ok) (canon_least ht.ok) fun n => by rw [bit_least hs.ok, bit_least ht.ok, hall n]
    refine x_if (et_reprNe (d := .none) (sm_none.ok (by decide) (by decide)) (ev_var rfl) (ev_if (et_B (ev_isN (ev_var rfl))) (fun _ => ev_non) fun e => nomatch e)) (fun e => nomatch e) fun _ => ?_
    refine x_if ((et_test (ev_neB (ca (c_counts (ev_var rfl) hs) (c_counts (ev_var rfl) ht)) (ev_reprEq rs (c_least (ev_var rfl) hs) ((c_least (ev_var rfl) ht).to (by rw [es]))))).to rfl) (fun e => nomatch e) fun _ => ?_
    exact w_ret (fin _ rfl rfl) rfl
  · rw [u1, u2]
    rw [u2] at ca
    have hne : leastS s ≠ leastS t := fun z => hd (by rw [← bit_least hs.ok, ← bit_least ht.ok, z])
    have hsn : ¬ (setD (leastS s)).shown = (setD (leastS t)).shown := fun z => hne (shown_set_inj (canon_least hs.ok).ok (canon_least ht.ok).ok z)
    have okd : ReprOk (.int (d : Int)) := (sm_int (x := (d : Int)) (by
      have := h1.first
      have := h2.first
      have := h1.len
      have := h2.len
      omega)).ok (by decide) (by decide)
    refine x_if (et_reprNe (d := .int (d : Int)) okd (ev_var rfl) (ev_if (et_B (ev_isN (ev_var rfl))) (fun e => nomatch e) fun _ => ev_int1 (ev_var rfl))) (fun e => nomatch e) fun _ => ?_
    refine x_if (EvT.to (b := false) (et_test (ev_neB (ca (c_counts (ev_var rfl) hs) (c_counts (ev_var rfl) ht)) (ev_eqS (ev_reprO (c_least (ev_var rfl) hs) rs) (ev_reprO (c_least (ev_var rfl) ht) rt)))) (by rw [decide_eq_false hsn]; rfl)) (fun e => nomatch e) fun _ => ?_
    exact w_ret (fin _ rfl rfl) rfl
end
end LD
/-! LS: the defs that draw from the sack. -/
namespace LD
open PySem PySem.Spec PyProof.Rows L2 LM
section
variable {K : PySem.W.Frag} {δ : DE} {ta tb te : TE} {acc : List D} {R : D → List D → Prop}
theorem ev_powmod {y e p q : Nat} (h : EvD te δ (.int (y : Int))) (hy : y < 1461501637330902918203684832716283019655932542976) (he : e ≤ 3) (hp : p ≤ 40) (hq : 0 < q) :
    EvD (tOp rMod (tOp rPowW (tCB rInt1 (tCons te tNil)) (tC (.int (e : Int)))) (tOp rAdd (tOp rPowW (tC (.int 10)) (tC (.int (p : Int)))) (tC (.int (q : Int))))) δ (.int ((y ^ e % (10 ^ p + q) : Nat) : Int)) := by
  have b1 : Builtin.Int.intBits (y : Int) ≤ 160 := bits_of (by
    rw [Int.natAbs_natCast]
    exact Nat.lt_of_lt_of_le hy (by decide))
  have b2 : Builtin.Int.intBits (10 : Int) ≤ 4 := by decide
  have m1 : (Builtin.Int.intBits (y : Int) : Int) * (e : Int) ≤ 160 * 3 := Int.mul_le_mul (by omega) (by omega) (by omega) (by omega)
  have m2 : (Builtin.Int.intBits (10 : Int) : Int) * (p : Int) ≤ 4 * 40 := Int.mul_le_mul (by omega) (by omega) (by omega) (by omega)
  have c1 : ((y : Int)) ^ ((e : Int)).toNat = ((y ^ e : Nat) : Int) := by
    rw [Int.toNat_natCast, Int.natCast_pow]
  have c2 : (10 : Int) ^ ((p : Int)).toNat + (q : Int) = ((10 ^ p + q : Nat) : Int) := by
    rw [Int.toNat_natCast, Int.natCast_add, Int.natCast_pow]
    rfl
  have hm := ev_mod (ev_pow (ev_intI h) (ev_int (i := (e : Int))) (by omega) (Int.le_trans m1 (by decide))) (ev_add (ev_pow (ev_int (i := 10)) (ev_int (i := (p : Int))) (by omega) (Int.le_trans m2 (by decide))) (ev_int (i := (q : Int)))) (by
    rw [c2]
    exact Int.natCast_pos.mpr (Nat.add_pos_right _ hq))
  refine hm.to ?_
  rw [c1, c2, Int.natCast_emod]
theorem atI0 (a b c : D) : atI [a, b, c] 0 = some a := rfl
theorem atI1 (a b c : D) : atI [a, b, c] 1 = some b := rfl
theorem atI2 (a b c : D) : atI [a, b, c] 2 = some c := rfl
theorem w_z_pick (ds : List D) (acc : List D) (R : D → List D → Prop) (h : S_z_pick ds acc R) : WM 0 (t_z_pick K) (none :: (startD 4 (.none :: ds)).tail) acc no2 no2 no2 R := by
  obtain ⟨many, n, rfl, m0, m1, hn, ⟨a, b, c, rfl, hb, hc⟩, hR⟩ := h
  refine wm_seq (M := fun δ acc' => δ = [none, some (.int (many : Int)), none, none] ∧ acc' = [.int (a : Int), .int (b : Int), .int (c : Int)])
    (wm_ifM (et_frz (i := (a : Int)) (j := 1) (b := decide ((1 : Int) < (a : Int))) (Nat.le_of_ble_eq_true rfl) (ev_ixL (ev_var rfl) ev_int (atI0 _ _ _)) ev_int (rv_I0 fun _ => .bl _) ⟨fun e => ?_, fun e => wm_next ⟨rfl, rfl⟩⟩)) ?_
  · refine wm_seq (M := fun δ acc' => δ = [none, some (.int (many : Int)), some (.int ((a % many : Nat) : Int)), none] ∧ acc' = [.int (a : Int), .int (b : Int), .int (c : Int)])
      (wm_frz (Nat.le_of_ble_eq_true rfl) (by decide) (ev_modN (ev_intI (ev_ixL (ev_var rfl) ev_int (atI0 _ _ _))) (ev_var rfl) m0) ⟨rfl, rfl⟩) ?_
    rintro δ acc' ⟨rfl, rfl⟩
    refine wm_seq (M := fun δ acc' => δ = [none, some (.int (many : Int)), some (.int ((a % many : Nat) : Int)), none] ∧ acc' = [.int ((a / many : Nat) : Int), .int (b : Int), .int (c : Int)])
      (wm_put (j := 0) (Nat.le_of_ble_eq_true rfl) (ev_divN (ev_ixL (ev_var rfl) ev_int (atI0 _ _ _)) (ev_var rfl) m0 (by omega)) (Nat.le_of_ble_eq_true rfl) ⟨rfl, rfl⟩) ?_
    rintro δ acc' ⟨rfl, rfl⟩
    exact wm_ret (ev_var rfl) (hR _ _ (Nat.mod_lt _ m0) ⟨_, _, _, rfl, hb, by omega⟩)
  · rintro δ acc' ⟨rfl, rfl⟩
    refine wm_seq (M := fun δ acc' => δ = [none, some (.int (many : Int)), none, none] ∧ acc' = [.int (a : Int), .int (b : Int), .int ((c + 1 : Nat) : Int)])
      (wm_put (j := 2) (Nat.le_of_ble_eq_true rfl) (ev_addN (b := 1) (ev_ixL (ev_var rfl) ev_int (atI2 _ _ _)) ev_int) (Nat.le_of_ble_eq_true rfl) ⟨rfl, rfl⟩) ?_
    rintro δ acc' ⟨rfl, rfl⟩
    refine wm_seq (M := fun δ acc' => (∃ x : Nat, x < 100000000000000000000000000000000000000000 ∧ δ = [none, some (.int (many : Int)), none, some (.int (x : Int))]) ∧ acc' = [.int (a : Int), .int (b : Int), .int ((c + 1 : Nat) : Int)])
      (wm_frz (Nat.le_of_ble_eq_true rfl) (by decide) (ev_powmod (y := b + 1500450271 * (c + 1)) (e := 3) (p := 40) (q := 121) (ev_addN (ev_ixL (ev_var rfl) ev_int (atI1 _ _ _)) (ev_mulN (a := 1500450271) ev_int (ev_ixL (ev_var rfl) ev_int (atI2 _ _ _)) (by omega))) (by omega) (by decide) (by decide) (by decide)) ⟨⟨_, Nat.lt_trans (Nat.mod_lt _ (by decide)) (by decide), rfl⟩, rfl⟩) ?_
    rintro δ acc' ⟨⟨x, hx, rfl⟩, rfl⟩
    refine wm_seq (M := fun δ acc' => (∃ x : Nat, δ = [none, some (.int (many : Int)), none, some (.int (x : Int))]) ∧ acc' = [.int (a : Int), .int (b : Int), .int ((c + 1 : Nat) : Int)])
      (wm_frz (Nat.le_of_ble_eq_true rfl) (by decide) (ev_powmod (y := x + 32416190071 * (c + 1)) (e := 2) (p := 36) (q := 67) (ev_addN (ev_var rfl) (ev_mulN (a := 32416190071) ev_int (ev_ixL (ev_var rfl) ev_int (atI2 _ _ _)) (by omega))) (by omega) (by decide) (by decide) (by decide)) ⟨⟨_, rfl⟩, rfl⟩) ?_
    rintro δ acc' ⟨⟨y, rfl⟩, rfl⟩
    exact wm_ret (ev_modN (ev_intI (ev_divN (b := 4096) (ev_var rfl) ev_int (by decide) (by decide))) (ev_var rfl) m0) (hR _ _ (Nat.mod_lt _ m0) ⟨a, b, c + 1, rfl, hb, by omega⟩)
theorem rv_ixL {xs : List D} {i : Int} {d : D} (h : atI xs i = some d) : RvD (rIxL K) (.list xs) (.int i) d := fun v w F H s h1 h2 Q q => by
  obtain ⟨a, vs, rfl, e1, r1⟩ := h1.lst_of
  obtain ⟨u, hu, ru⟩ := atI_get r1 h
  exact ⟨a, vs, i, u, rfl, h2.int_of, SqL.of (s _ _ e1), hu, q _ F H (Ext.refl s) ru⟩
/-- a draw -/
theorem em_pick {many n : Nat} (hm : EvD te δ (.int (many : Int))) (m0 : 0 < many) (m1 : many < 1000000000) (hn : n < 1000000) (ok : SackOk n acc) (h : ∀ (k : Nat) a, k < many → SackOk (n + 1) a → R (.int (k : Int)) a) :
    EvM (tCall sp_z_pick [] E0 (tCons (tVar 0) (tCons te tNil))) δ acc R := em_call (ema_cons (R1 := fun d a => d = .int (many : Int) ∧ a = acc) (em_pure hm ⟨rfl, rfl⟩) fun x a hx => by
  obtain ⟨rfl, rfl⟩ := hx
  exact ema_nil ⟨many, n, rfl, m0, m1, hn, ok, h⟩)
/-- xs[draw] of a list of so many -/
theorem em_pickIx {xs : List D} {many n : Nat} (hx : EvD ta δ (.list xs)) (hm : EvD te δ (.int (many : Int))) (hl : xs.length = many) (m0 : 0 < many) (m1 : many < 1000000000) (hn : n < 1000000) (ok : SackOk n acc) (h : ∀ d a, d ∈ xs → SackOk (n + 1) a → R d a) :
    EvM (tOp (rIxL K) ta (tCall sp_z_pick [] E0 (tCons (tVar 0) (tCons te tNil)))) δ acc R :=
  em_op (R1 := fun d a => d = .list xs ∧ a = acc) (em_pure hx ⟨rfl, rfl⟩) fun x a hxa => by
    obtain ⟨rfl, rfl⟩ := hxa
    refine em_pick hm m0 m1 hn ok fun k a' hk ok' => ?_
    have hk' : k < xs.length := by omega
    exact ⟨xs[k], rv_ixL (by unfold atI; rw [ixN_of hk']; exact List.getElem?_eq_getElem hk'), h _ _ (List.getElem_mem hk') ok'⟩
theorem w_z_length (ds : List D) (acc : List D) (R : D → List D → Prop) (h : S_z_length ds acc R) : WM 0 (t_z_length K) (none :: (startD 4 (.none :: ds)).tail) acc no2 no2 no2 R := by
  obtain ⟨most, n, rfl, hm, hn, ok, hR⟩ := h
  refine wm_seq (M := fun δ a => δ = [none, some (.int (most : Int)), some (iL [6, 4, 3, 2, 1, 5, 12, 8, 9, 7, 10, 11, 13, 17, 25, 31, 34, 49, 53, 59, 60]), none] ∧ a = acc)
    (wm_set (ev_lst (ea_cons ev_int (ea_cons ev_int (ea_cons ev_int (ea_cons ev_int (ea_cons ev_int (ea_cons ev_int (ea_cons ev_int (ea_cons ev_int (ea_cons ev_int (ea_cons ev_int (ea_cons ev_int (ea_cons ev_int (ea_cons ev_int (ea_cons ev_int (ea_cons ev_int (ea_cons ev_int (ea_cons ev_int (ea_cons ev_int (ea_cons ev_int (ea_cons ev_int (ea_cons ev_int ea_nil)))))))))))))))))))))) (by decide) ⟨rfl, rfl⟩) ?_
  rintro δ a ⟨rfl, rfl⟩
  refine wm_seq (M := fun δ a' => δ = [none, some (.int (most : Int)), some (iL (([6, 4, 3, 2, 1, 5, 12, 8, 9, 7, 10, 11, 13, 17, 25, 31, 34, 49, 53, 59, 60] : List Int).filter fun x => decide (x ≤ (most : Int)))), none] ∧ a' = a)
    (wm_set ((ev_lcI ([6, 4, 3, 2, 1, 5, 12, 8, 9, 7, 10, 11, 13, 17, 25, 31, 34, 49, 53, 59, 60] : List Int) PyData.int (fun x => decide (x ≤ (most : Int))) (fun x => x) [3] (fun x => _) (ei_listI (ev_var rfl)) (by rw [sizeLine_is]; decide) (fun j hj => hj) (fun x hx => as_name) (fun x hx => et_test (ev_le (ev_var rfl) (ev_var rfl))) fun x hx _ => ev_var rfl).to (by rw [List.map_id'])) (by decide) ⟨rfl, rfl⟩) ?_
  rintro δ a' ⟨rfl, rfl⟩
  have fin : ∀ (ns : List Int) (most : Nat), 0 < ns.length → ns.length < 100 → (∀ x ∈ ns, 0 < x ∧ x ≤ (most : Int)) → (∀ (k : Nat) a, 0 < k → k ≤ most → SackOk (n + 1) a → R (.int (k : Int)) a) →
      WM 0 (tRet (tOp (rIxL K) (tVar 2) (tCall sp_z_pick [] E0 (tCons (tVar 0) (tCons (tCB (rLenQ K) (tCons (tVar 2) tNil)) tNil))))) [none, some (.int (most : Int)), some (iL ns), none] a' no2 no2 no2 R := by
    intro ns most p l hx hR
    refine wm_retM (em_pickIx (ev_var rfl) (ev_lenI (ev_var rfl)) (List.length_map _) p (by omega) hn ok fun d a hd ok' => ?_)
    obtain ⟨x, hx2, rfl⟩ := List.mem_map.mp hd
    have := hx x hx2
    have q := hR x.toNat a (by omega) (by omega) ok'
    rw [show ((x.toNat : Nat) : Int) = x by omega] at q
    exact q
  rcases hm with rfl | rfl
  · exact fin [6, 4, 3, 2, 1, 5] 6 (by decide) (by decide) (by decide) hR
  · exact fin [6, 4, 3, 2, 1, 5, 12, 8, 9, 7, 10, 11] 12 (by decide) (by decide) (by decide) hR
/-- an ascending part of the first days -/
theorem asc_sub {ys : List Nat} {n : Nat} (h : List.Sublist ys (List.range n)) : Asc (ys.map fun i : Nat => (i : Int)) n := by
  refine ⟨List.pairwise_map.mpr ((List.Pairwise.sublist h (List.pairwise_lt_range (n := n))).imp fun {a b} hab => ?_), fun x hx => ?_⟩
  · show ((a : Nat) : Int) < ((b : Nat) : Int)
    omega
  · obtain ⟨i, hi, rfl⟩ := List.mem_map.mp hx
    have := List.mem_range.mp (h.subset hi)
    omega
/-- [i for i in range(n) if draw == 0] -/
theorem em_some {i : Nat} {m many n : Nat} (h0 : i ≠ 0) (hil : i < δ.length) (hr : EvD ta δ (.int (m : Int))) (hm : m < 1000) (hb : ∀ x : D, EvD te ((wipeD δ [i]).set i (some x)) (.int (many : Int))) (m0 : 0 < many) (m1 : many < 1000000000) (hn : n + m < 1000000) (ok : SackOk n acc)
    (h : ∀ xs a, Asc xs m → SackOk (n + m) a → R (iL xs) a) : EvM (tLc (iRng1 (tCons ta tNil)) (gName i) (tTest (tOp rEq (tCall sp_z_pick [] E0 (tCons (tVar 0) (tCons te tNil))) (tC (.int 0)))) (tVar i) [i]) δ acc R := by
  have wl : ∀ vs : List Nat, (wipeD δ vs).length = δ.length := by
    intro vs
    induction vs with
    | nil => rfl
    | cons v vs ih => show ((wipeD δ vs).set v none).length = _; rw [List.length_set, ih]
  refine em_lc (List.range m) (fun k : Nat => PyData.int (k : Nat)) (fun k : Nat => PyData.int (k : Nat)) [i] (fun k => (wipeD δ [i]).set i (some (.int (k : Nat)))) (fun k a => SackOk (n + k) a) (ei_rangeN hr (by omega)) (by rw [List.length_range, sizeLine_is]; omega) (fun j hj => hj) (fun z => h0 (List.mem_singleton.mp z).symm) ok
    (fun k hk => as_name) (fun k x a hx hok => ?_) (fun k hk => ev_var (List.getElem?_set_self (by rw [wl]; exact hil))) fun ys a sub hok => ?_
  · have hk : k < m := by
      have := (List.getElem?_eq_some_iff.mp hx).1
      rw [List.length_range] at this
      exact this
    exact emt_test (em_op (R1 := fun d a' => ∃ q : Nat, d = .int (q : Int) ∧ SackOk (n + k + 1) a') (em_pick (hb _) m0 m1 (by omega) hok fun q a' _ ok' => ⟨q, rfl, ok'⟩) fun x a' hx => by
      obtain ⟨q, rfl, ok'⟩ := hx
      refine em_pure ev_int ⟨.bool (decide ((q : Int) = 0)), fun v w F H s h1 h2 Q qq => ?_, _, rfl, ok'⟩
      rw [h1.int_of, h2.int_of]
      refine ⟨rfl, qq _ F H (Ext.refl s) ?_⟩
      have e : decide (V.int (q : Int) = V.int 0) = decide ((q : Int) = 0) := decide_eq_decide.mpr ⟨fun h => V.int.inj h, fun h => by rw [h]⟩
      rw [e]
      exact .bl _)
  · rw [List.length_range] at hok
    have := h (ys.map fun k : Nat => (k : Int)) a (asc_sub sub) hok
    rw [show iL (ys.map fun k : Nat => (k : Int)) = .list (ys.map fun k : Nat => (PyData.int (k : Nat) : D)) by unfold iL; rw [List.map_map]; rfl] at this
    exact this
theorem rv_addN {a b : Nat} : RvD rAdd (.int (a : Int)) (.int (b : Int)) (.int ((a + b : Nat) : Int)) := by
  rw [Int.natCast_add]
  exact rv_I0 fun _ => .int _
theorem rv_eq0 {q : Nat} : RvD rEq (.int (q : Int)) (.int 0) (.bool (decide ((q : Int) = 0))) := fun v w F H s h1 h2 Q qq => by
  rw [h1.int_of, h2.int_of]
  refine ⟨rfl, qq _ F H (Ext.refl s) ?_⟩
  have e : decide (V.int (q : Int) = V.int 0) = decide ((q : Int) = 0) := decide_eq_decide.mpr ⟨fun h => V.int.inj h, fun h => by rw [h]⟩
  rw [e]
  exact .bl _
theorem emt_pick0 {many n : Nat} {Rb : Bool → List D → Prop} (hm : EvD te δ (.int (many : Int))) (m0 : 0 < many) (m1 : many < 1000000000) (hn : n < 1000000) (ok : SackOk n acc) (h : ∀ b a, SackOk (n + 1) a → Rb b a) :
    EvMT (tTest (tOp rEq (tCall sp_z_pick [] E0 (tCons (tVar 0) (tCons te tNil))) (tC (.int 0)))) δ acc Rb :=
  emt_test (em_op (R1 := fun d a' => ∃ q : Nat, d = .int (q : Int) ∧ SackOk (n + 1) a') (em_pick hm m0 m1 hn ok fun q a' _ ok' => ⟨q, rfl, ok'⟩) fun x a' hx => by
    obtain ⟨q, rfl, ok'⟩ := hx
    exact em_pure ev_int ⟨_, rv_eq0, _, rfl, h _ _ ok'⟩)
theorem w_z_set (ds : List D) (acc : List D) (R : D → List D → Prop) (h : S_z_set ds acc R) : WM 0 (t_z_set K) (none :: (startD 9 (.none :: ds)).tail) acc no2 no2 no2 R := by
  obtain ⟨most, n, rfl, hm, hn, ok, hR⟩ := h
  have hm12 : most ≤ 12 := by omega
  refine wm_seq (M := fun δ a => (∃ f l : Nat, f ≤ 8 ∧ 0 < l ∧ l ≤ 12 ∧ δ = [none, some (.int (most : Int)), some (.int (f : Int)), some (.int (l : Int)), none, none, none, none, none]) ∧ SackOk (n + 3) a)
    (wm_parM (by decide) (by decide) (ema_cons (R1 := fun d a => (∃ f : Nat, d = .int (f : Int) ∧ f ≤ 8) ∧ SackOk (n + 2) a) (em_call (ema_cons (R1 := fun d a => (∃ z : Nat, d = .int (z : Int) ∧ 0 < z ∧ z ≤ 9) ∧ SackOk (n + 1) a) (em_pickIx (many := 3) (ev_lst (ea_cons ev_int (ea_cons ev_int (ea_cons ev_int ea_nil)))) ev_int rfl (by decide) (by decide) (by omega) ok fun d a hd ok' => ⟨?_, ok'⟩) fun x a hx => ?_)) fun x a hx => ?_)) ?_
  · rcases List.mem_cons.mp hd with rfl | hd
    · exact ⟨1, rfl, by decide, by decide⟩
    · rcases List.mem_cons.mp hd with rfl | hd
      · exact ⟨4, rfl, by decide, by decide⟩
      · rw [List.mem_singleton.mp hd]
        exact ⟨9, rfl, by decide, by decide⟩
  · obtain ⟨⟨z, rfl, z0, z9⟩, ok1⟩ := hx
    exact ema_nil ⟨z, n + 1, rfl, z0, by omega, by omega, ok1, fun k a hk ok2 => ⟨⟨k, rfl, by omega⟩, ok2⟩⟩
  · obtain ⟨⟨f, rfl, f8⟩, ok2⟩ := hx
    refine ema_cons (R1 := fun d a => (∃ l : Nat, d = .int (l : Int) ∧ 0 < l ∧ l ≤ 12) ∧ SackOk (n + 3) a) (em_call (ema_cons (R1 := fun d a' => d = .int (most : Int) ∧ a' = a) (em_pure (ev_var rfl) ⟨rfl, rfl⟩) fun x a' hx => ?_)) fun x a' hx => ?_
    · obtain ⟨rfl, rfl⟩ := hx
      exact ema_nil ⟨most, n + 2, rfl, hm, by omega, ok2, fun k a k0 k1 ok3 => ⟨⟨k, rfl, k0, by omega⟩, ok3⟩⟩
    · obtain ⟨⟨l, rfl, l0, l1⟩, ok3⟩ := hx
      exact ema_nil ⟨_, _, rfl, ⟨f, l, f8, l0, l1, rfl⟩, ok3⟩
  rintro δ a ⟨⟨f, l, f8, l0, l12, rfl⟩, ok3⟩
  refine wm_seq (M := fun δ a => (∃ d : Nat, 0 < d ∧ d ≤ 4 ∧ δ = [none, some (.int (most : Int)), some (.int (f : Int)), some (.int (l : Int)), some (.int (d : Int)), none, none, none, none]) ∧ SackOk (n + 4) a)
    (wm_setM (by decide) (em_op (R1 := fun d a' => d = .int ((1 : Nat) : Int) ∧ a' = a) (em_pure ev_int ⟨rfl, rfl⟩) fun x a' hx => ?_)) ?_
  · obtain ⟨rfl, rfl⟩ := hx
    exact em_pick (many := 4) ev_int (by decide) (by decide) (by omega) ok3 fun k a'' hk ok4 => ⟨_, rv_addN, ⟨1 + k, by omega, by omega, rfl⟩, ok4⟩
  rintro δ a ⟨⟨d, d0, d4, rfl⟩, ok4⟩
  refine wm_seq (M := fun δ a => (∃ e : List Int, Asc e f ∧ δ = [none, some (.int (most : Int)), some (.int (f : Int)), some (.int (l : Int)), some (.int (d : Int)), some (iL e), none, none, none]) ∧ SackOk (n + 12) a)
    (wm_setM (by decide) (em_some (many := d + 1) (by decide) (Nat.le_of_ble_eq_true rfl) (ev_var rfl) (by omega) (fun x => ev_addN (b := 1) (ev_var rfl) ev_int) (by omega) (by omega) (by omega) ok4 fun e a he ok5 => ⟨⟨e, he, rfl⟩, ok5.mono (by omega)⟩)) ?_
  rintro δ a ⟨⟨e, he, rfl⟩, ok5⟩
  refine wm_seq (M := fun δ a => (∃ g : List Int, Asc g l ∧ δ = [none, some (.int (most : Int)), some (.int (f : Int)), some (.int (l : Int)), some (.int (d : Int)), some (iL e), none, some (iL g), none]) ∧ SackOk (n + 24) a)
    (wm_setM (by decide) (em_some (many := d + 1) (by decide) (Nat.le_of_ble_eq_true rfl) (ev_var rfl) (by omega) (fun x => ev_addN (b := 1) (ev_var rfl) ev_int) (by omega) (by omega) (by omega) ok5 fun g a hg ok6 => ⟨⟨g, hg, rfl⟩, ok6.mono (by omega)⟩)) ?_
  rintro δ a ⟨⟨g, hg, rfl⟩, ok6⟩
  refine wm_seq (M := fun δ a => (∃ g : List Int, Asc g l ∧ δ = [none, some (.int (most : Int)), some (.int (f : Int)), some (.int (l : Int)), some (.int (d : Int)), some (iL e), none, some (iL g), none]) ∧ SackOk (n + 50) a)
    (wm_ifM (emt_pick0 (many := 8) ev_int (by decide) (by decide) (by omega) ok6 fun b a ok7 => ⟨fun _ => wm_set (d := iL []) (ev_lst ea_nil) (by decide) ⟨⟨[], ⟨List.Pairwise.nil, fun _ hx => nomatch hx⟩, rfl⟩, ok7.mono (by omega)⟩, fun _ => wm_next ⟨⟨g, hg, rfl⟩, ok7.mono (by omega)⟩⟩)) ?_
  rintro δ a ⟨⟨g, hg, rfl⟩, ok7⟩
  exact wm_ret (d := setD ⟨e, f, l, g⟩) (ev_tup (ea_cons (ev_var rfl) (ea_cons (ev_var rfl) (ea_cons (ev_var rfl) (ea_cons (ev_var rfl) ea_nil))))) (hR _ _ ⟨⟨l0, he, hg⟩, f8, l12⟩ ok7)
end
end LD
/-! LS2: the wide set, the moved days, one round of the law. -/
namespace LD
open PySem PySem.Spec PyProof.Rows L2 LM
section
variable {K : PySem.W.Frag} {δ : DE} {ta tb te : TE} {acc : List D} {R : D → List D → Prop}
theorem rc_minN {a b : Nat} : RcD rMin2 [.int (a : Int), .int (b : Int)] (.int ((min a b : Nat) : Int)) := fun vs F H s hr Q q => by
  obtain ⟨v, w, rfl, r1, r2⟩ := rps2 hr
  refine ⟨(a : Int), (b : Int), by rw [r1.int_of, r2.int_of], q _ F H (Ext.refl s) ?_⟩
  have e : (if (b : Int) < (a : Int) then (b : Int) else (a : Int)) = ((min a b : Nat) : Int) := by split <;> omega
  rw [e]
  exact .int _
/-- [i for i in range(m) if has(s, k + i)] -/
theorem ev_has {i m : Nat} {k : Nat} {s : DSet} (hok : SetOk s) (hil : i < δ.length) (hr : EvD ta δ (.int (m : Int))) (hm : m < 1000000) (hs : ∀ x : D, EvD tb ((wipeD δ [i]).set i (some x)) (setD s)) (he : ∀ n : Nat, EvD te ((wipeD δ [i]).set i (some (.int (n : Int)))) (.int ((k + n : Nat) : Int))) :
    EvD (tLc (iRng1 (tCons ta tNil)) (gName i) (tB (tCall sp_z_has [] E0 (tCons tb (tCons te tNil)))) (tVar i) [i]) δ (iL (((List.range m).filter fun n => decide (bit s (k + n) = 1)).map fun n : Nat => (n : Int))) := by
  have wl : ∀ vs : List Nat, (wipeD δ vs).length = δ.length := by
    intro vs
    induction vs with
    | nil => rfl
    | cons v vs ih => show ((wipeD δ vs).set v none).length = _; rw [List.length_set, ih]
  exact ev_lcI (List.range m) (fun n : Nat => PyData.int (n : Nat)) (fun n => decide (bit s (k + n) = 1)) (fun n : Nat => (n : Int)) [i] (fun n => (wipeD δ [i]).set i (some (.int (n : Nat)))) (ei_rangeN hr (by omega)) (by rw [List.length_range, sizeLine_is]; omega) (fun j hj => hj) (fun n hn => as_name)
    (fun n hn => et_B (ev_call (ea_cons (hs _) (ea_cons (he n) ea_nil)) ⟨s, k + n, rfl, hok, rfl⟩)) fun n hn _ => ev_var (List.getElem?_set_self (by rw [wl]; exact hil))
theorem w_z_set_wide (ds : List D) (acc : List D) (R : D → List D → Prop) (h : S_z_set_wide ds acc R) : WM 0 (t_z_set_wide K) (none :: (startD 15 (.none :: ds)).tail) acc no2 no2 no2 R := by
  obtain ⟨s, n, rfl, fit, hn, ok, hR⟩ := h
  have f8 := fit.first
  have l12 := fit.len
  have pos := fit.ok.pos
  have d24 : s.len * (24 / s.len) ≤ 24 := Nat.mul_div_le 24 s.len
  refine wm_seq (M := fun δ a => δ = [none, some (setD s), some (.int 24), some (iL s.early), some (.int (s.first : Int)), some (.int (s.len : Int)), some (iL s.found), none, none, none, none, none, none, none, none] ∧ a = acc)
    (wm_asg (ev_var rfl) (as_tup (as_cons as_name (as_cons as_name (as_cons as_name (as_cons as_name as_nil))))) (by decide) ⟨rfl, rfl⟩) ?_
  rintro δ a ⟨rfl, rfl⟩
  obtain ⟨room, hroom, r1, rl⟩ : ∃ room : Nat, max 1 (24 / s.len) = room ∧ 1 ≤ room ∧ s.len * room ≤ 24 := ⟨max 1 (24 / s.len), rfl, by omega, by
    rcases Nat.le_total 1 (24 / s.len) with z | z
    · rw [Nat.max_eq_right z]
      exact d24
    · rw [Nat.max_eq_left z]
      omega⟩
  have rb : room ≤ 24 := by
    have : 1 * room ≤ s.len * room := Nat.mul_le_mul_right room pos
    omega
  refine wm_seq (M := fun δ a' => δ = [none, some (setD s), some (.int 24), some (iL s.early), some (.int (s.first : Int)), some (.int (s.len : Int)), some (iL s.found), some (.int (room : Int)), none, none, none, none, none, none, none] ∧ a' = a)
    (wm_set (d := .int (room : Int)) ((ev_maxN (a := 1) (b := 24 / s.len) ev_int (ev_divN (a := 24) (ev_var rfl) (ev_var rfl) pos (by omega))).to (by rw [hroom])) (by decide) ⟨rfl, rfl⟩) ?_
  rintro δ a' ⟨rfl, rfl⟩
  refine wm_seq (M := fun δ a => δ = [none, some (setD s), some (.int 24), some (iL s.early), some (.int (s.first : Int)), some (.int (s.len : Int)), some (iL s.found), some (.int (room : Int)), some (.list [.int 3, .int 3, .int 3, .int 3, .int 3, .int 3, .int 3, .int (room : Int)]), none, none, none, none, none, none] ∧ a = a')
    (wm_set (d := .list [.int 3, .int 3, .int 3, .int 3, .int 3, .int 3, .int 3, .int (room : Int)]) (ev_cat (xs := [.int 3, .int 3, .int 3, .int 3, .int 3, .int 3, .int 3]) ((ev_rep (ev_lst (ea_cons ev_int ea_nil)) ev_int (by decide) (by decide) (by show 1 * 7 ≤ sizeLine; rw [sizeLine_is]; decide)).to rfl) (ev_lst (ea_cons (ev_var rfl) ea_nil)) (by show 7 + 1 ≤ sizeLine; rw [sizeLine_is]; decide)) (by decide) ⟨rfl, rfl⟩) ?_
  rintro δ a ⟨rfl, rfl⟩
  refine wm_seq (M := fun δ a => (∃ t : Nat, 1 ≤ t ∧ t ≤ room ∧ δ = [none, some (setD s), some (.int 24), some (iL s.early), some (.int (s.first : Int)), some (.int (s.len : Int)), some (iL s.found), some (.int (room : Int)), some (.list [.int 3, .int 3, .int 3, .int 3, .int 3, .int 3, .int 3, .int (room : Int)]), some (.int (t : Int)), none, none, none, none, none]) ∧ SackOk (n + 2) a)
    (wm_setM (by decide) (em_cb (ema_cons (R1 := fun d a' => d = .int (room : Int) ∧ a' = a) (em_pure (ev_var rfl) ⟨rfl, rfl⟩) fun x a' hx => ?_))) ?_
  · obtain ⟨rfl, rfl⟩ := hx
    refine ema_cons (R1 := fun d a => (∃ k : Nat, d = .int ((1 + k : Nat) : Int)) ∧ SackOk (n + 2) a) (em_op (R1 := fun d a => d = .int ((1 : Nat) : Int) ∧ a = a') (em_pure ev_int ⟨rfl, rfl⟩) fun x a hx => ?_) fun x a hx => ?_
    · obtain ⟨rfl, rfl⟩ := hx
      refine em_call (ema_cons (R1 := fun d a => (∃ z : Nat, d = .int (z : Int) ∧ 0 < z ∧ z ≤ 24) ∧ SackOk (n + 1) a) (em_pickIx (many := 8) (ev_var rfl) ev_int rfl (by decide) (by decide) (by omega) ok fun d a hd ok' => ⟨?_, ok'⟩) fun x a hx => ?_)
      · have h3 : d = .int ((3 : Nat) : Int) ∨ d = .int (room : Int) := by
          simp only [List.mem_cons, List.not_mem_nil, or_false] at hd
          rcases hd with h | h | h | h | h | h | h | h
          all_goals first | exact .inl h | exact .inr h
        rcases h3 with h | h
        · exact ⟨3, h, by decide, by decide⟩
        · exact ⟨room, h, by omega, rb⟩
      · obtain ⟨⟨z, rfl, z0, z9⟩, ok1⟩ := hx
        exact ema_nil ⟨z, n + 1, rfl, z0, by omega, by omega, ok1, fun k a hk ok2 => ⟨_, rv_addN, ⟨k, rfl⟩, ok2⟩⟩
    · obtain ⟨⟨k, rfl⟩, ok2⟩ := hx
      exact ema_nil ⟨_, rc_minN, ⟨min room (1 + k), by omega, by omega, rfl⟩, ok2⟩
  rintro δ a ⟨⟨t, t1, tr, rfl⟩, ok2⟩
  have lt24 : s.len * t ≤ 24 := Nat.le_trans (Nat.mul_le_mul_left _ tr) rl
  refine wm_seq (M := fun δ a => (∃ b : Nat, b ≤ 15 ∧ δ = [none, some (setD s), some (.int 24), some (iL s.early), some (.int (s.first : Int)), some (.int (s.len : Int)), some (iL s.found), some (.int (room : Int)), some (.list [.int 3, .int 3, .int 3, .int 3, .int 3, .int 3, .int 3, .int (room : Int)]), some (.int (t : Int)), some (.int (b : Int)), some (.int ((s.len * t : Nat) : Int)), none, none, none]) ∧ SackOk (n + 3) a)
    (wm_asgM (em_tup (ema_cons (R1 := fun d a => (∃ b : Nat, b ≤ 15 ∧ d = .int (b : Int)) ∧ SackOk (n + 3) a) (em_op (R1 := fun d a' => d = .int (s.first : Int) ∧ a' = a) (em_pure (ev_var rfl) ⟨rfl, rfl⟩) fun x a' hx => ?_) fun x a' hx => ?_))) ?_
  · obtain ⟨rfl, rfl⟩ := hx
    exact em_pick (many := 8) ev_int (by decide) (by decide) (by omega) ok2 fun k a hk ok3 => ⟨_, rv_addN, ⟨s.first + k, by omega, rfl⟩, ok3⟩
  · obtain ⟨⟨b, hb, rfl⟩, ok3⟩ := hx
    exact ema_pure (ea_cons (ev_mulN (ev_var rfl) (ev_var rfl) (by omega)) ea_nil) ⟨Nat.le_of_ble_eq_true rfl, _, _, as_tup (as_cons as_name (as_cons as_name as_nil)), by decide, ⟨b, hb, rfl⟩, ok3⟩
  rintro δ a ⟨⟨b, hb, rfl⟩, ok3⟩
  refine wm_pure (Rd := fun d => ∃ t, SetFit t 15 24 ∧ d = setD t) ?_ fun d ⟨t, ft, hd⟩ => by
    subst hd
    exact hR t a ft (ok3.mono (by omega))
  refine x_set (ev_has (k := 0) fit.ok (Nat.le_of_ble_eq_true rfl) (ev_var rfl) (by omega) (fun x => ev_var rfl) fun m => (ev_var rfl).to (by rw [Nat.zero_add])) ?_
  refine w_ret (ev_tup (ea_cons (ev_var rfl) (ea_cons (ev_var rfl) (ea_cons (ev_var rfl) (ea_cons (ev_has (k := b) fit.ok (Nat.le_of_ble_eq_true rfl) (ev_var rfl) (by omega) (fun x => ev_var rfl) fun m => ev_addN (ev_var rfl) (ev_var rfl)) ea_nil))))) ?_
  exact ⟨⟨_, b, s.len * t, _⟩, ⟨⟨Nat.mul_pos pos t1, asc_sub List.filter_sublist, asc_sub List.filter_sublist⟩, hb, lt24⟩, rfl⟩
theorem c_later {s : DSet} {k : Nat} (ha : EvD ta δ (setD s)) (hb : EvD tb δ (.int (k : Int))) (hs : FS s) (hk : k ≤ 1000) : EvD (tCall sp_moved [] E0 (tCons ta (tCons tb tNil))) δ (setD (laterS k s)) := ev_call (ea_cons ha (ea_cons hb ea_nil)) ⟨s, k, hs.bt, hk, .inl ⟨rfl, rfl⟩⟩
theorem c_down {s : DSet} {k : Nat} (ha : EvD ta δ (setD s)) (hb : EvD tb δ (.int (k : Int))) (hs : FS s) (hk : k ≤ 1000) : EvD (tCall sp_moved [] E0 (tCons ta (tCons (tOp rSub (tC (.int 0)) tb) tNil))) δ (setD (downS k s)) := by
  unfold downS
  split
  · rename_i h
    subst h
    exact ev_call (ea_cons ha (ea_cons (ev_sub ev_int hb) ea_nil)) ⟨s, 0, hs.bt, by decide, .inl ⟨rfl, rfl⟩⟩
  · rename_i h
    refine ev_call (ea_cons ha (ea_cons (ev_sub ev_int hb) ea_nil)) ⟨s, k, hs.bt, hk, .inr ⟨by omega, ?_, rfl⟩⟩
    rw [Int.zero_sub]
theorem c_join {d : Nat} {l : Lad} (ha : EvD ta δ (ladD ⟨[], [(d : Int)], 1⟩)) (hb : EvD tb δ (ladD l)) (hl : LadOk l BE BT) : EvD (tCall sp_joined [] E0 (tCons ta (tCons tb tNil))) δ (ladD (leastWay (shiftLad d l))) := ev_call (ea_cons ha (ea_cons hb ea_nil)) ⟨d, l, rfl, hl, rfl⟩
theorem flat_ok {c : Int} (h : 0 ≤ c) : LadOk ⟨[], [c], 0⟩ BE BT := ⟨⟨show 0 < 1 by decide, Nat.zero_le _, show 1 ≤ BT by decide, show (0 : Int) ≤ 0 by decide, show (0 : Int) < 1099511627776 by decide⟩, by
  show ([decide ((0 : Int) ≤ c), decide (c ≤ c + 0)] : List Bool).all id = true
  rw [decide_eq_true h, decide_eq_true (show c ≤ c + 0 by omega)]
  rfl⟩
theorem flat_tells (c : Int) (n : Nat) : tells ⟨[], [c], 0⟩ n = c := by
  rw [tells_ge (Nat.zero_le _)]
  unfold cyc
  show [c].getD ((n - 0) % 1) 0 + 0 * _ = c
  rw [Nat.mod_one, Int.zero_mul, Int.add_zero]
  rfl
theorem w_moved_rest {s : DSet} {d : Nat} (h1 : SetFit s 8 12) (hd : d < 21) : W (tSeq (tPar 3 4 (tCons (tTup (tCons (tLst tNil) (tCons (tLst (tCons (tVar 2) tNil)) (tCons (tC (.int 1)) tNil)))) (tCons (tCall sp_counts [] E0 (tCons (tVar 1) tNil)) tNil)))
    (tSeq (tPar 5 6 (tCons (tCall sp_moved [] E0 (tCons (tVar 1) (tCons (tVar 2) tNil))) (tCons (tCall sp_moved [] E0 (tCons (tVar 1) (tCons (tOp rSub (tC (.int 0)) (tVar 2)) tNil))) tNil)))
    (tSeq (tIfS (tOr (tTest (tOp rNe (tCB (rRepr K) (tCons (tCall sp_joined [] E0 (tCons (tVar 3) (tCons (tCall sp_counts [] E0 (tCons (tVar 5) tNil)) tNil))) tNil)) (tCB (rRepr K) (tCons (tVar 4) tNil)))) (tTest (tOp rNe (tCall sp_value [] E0 (tCons (tCall sp_counts [] E0 (tCons (tVar 5) tNil)) (tCons (tVar 2) tNil))) (tC (.int 0))))) (tRet (tC (.bl false))) tNext)
    (tSeq (tAsg (tTup (tCons (tLst tNil) (tCons (tLst (tCons (tCall sp_value [] E0 (tCons (tVar 4) (tCons (tVar 2) tNil))) tNil)) (tCons (tC (.int 0)) tNil)))) (gName 7))
    (tSeq (tIfS (tTest (tOp rNe (tCB (rRepr K) (tCons (tCall sp_plus [] E0 (tCons (tCall sp_counts [] E0 (tCons (tVar 6) tNil)) (tCons (tVar 7) tNil))) tNil)) (tCB (rRepr K) (tCons (tCall sp_joined [] E0 (tCons (tVar 3) (tCons (tVar 4) tNil))) tNil)))) (tRet (tC (.bl false))) tNext)
    (tSeq (tIfS (tTest (tOp rNe (tCB (rRepr K) (tCons (tCall sp_moved [] E0 (tCons (tVar 5) (tCons (tOp rSub (tC (.int 0)) (tVar 2)) tNil))) tNil)) (tCB (rRepr K) (tCons (tCall sp_least_set [] E0 (tCons (tVar 1) tNil)) tNil)))) (tRet (tC (.bl false))) tNext)
    (tSeq (tAsg (tLc (iRng1 (tCons (tVar 2) tNil)) (gName 9) (tB (tCall sp_z_has [] E0 (tCons (tVar 1) (tCons (tVar 9) tNil)))) (tVar 9) [9]) (gName 8))
    (tRet (tOp rEq (tCB (rRepr K) (tCons (tCall sp_either [] E0 (tCons (tCall sp_moved [] E0 (tCons (tVar 6) (tCons (tVar 2) tNil))) (tCons (tCall sp_set_of [] E0 (tCons (tVar 8) tNil)) tNil))) tNil)) (tCB (rRepr K) (tCons (tCall sp_least_set [] E0 (tCons (tVar 1) tNil)) tNil)))))))))))
    [none, some (setD s), some (.int (d : Int)), none, none, none, none, none, none, none] no no no (fun r => r = .bool true) := by
  have hs : FS s := h1.mono (by decide) (by decide)
  have hup : FS (laterS d s) := (fit_later h1 d).mono (by omega) (by decide)
  have hdn0 : SetFit (downS d s) 8 12 := fit_down h1 d
  have hdn : FS (downS d s) := hdn0.mono (by decide) (by decide)
  have hld : FS (laterS d (downS d s)) := (fit_later hdn0 d).mono (by omega) (by decide)
  have hdu : FS (downS d (laterS d s)) := fit_down hup d
  have asc : Asc (((List.range d).filter fun n => decide (bit s (0 + n) = 1)).map fun n : Nat => (n : Int)) d := asc_sub List.filter_sublist
  have lowm : ∀ n : Nat, (n : Int) ∈ (((List.range d).filter fun n => decide (bit s (0 + n) = 1)).map fun n : Nat => (n : Int)) ↔ n < d ∧ bit s n = 1 := by
    intro n
    constructor
    · intro h
      obtain ⟨m, hm, e⟩ := List.mem_map.mp h
      have e' : (m : Int) = (n : Int) := e
      have e2 : m = n := by omega
      subst e2
      obtain ⟨q1, q2⟩ := List.mem_filter.mp hm
      have := of_decide_eq_true q2
      rw [Nat.zero_add] at this
      exact ⟨List.mem_range.mp q1, this⟩
    · intro h
      exact List.mem_map.mpr ⟨n, List.mem_filter.mpr ⟨List.mem_range.mpr h.1, decide_eq_true (by rw [Nat.zero_add]; exact h.2)⟩, rfl⟩
  generalize hlow : (((List.range d).filter fun n => decide (bit s (0 + n) = 1)).map fun n : Nat => (n : Int)) = low at asc lowm
  obtain ⟨fd, bd⟩ := days_fit asc.1 asc.2
  have hday : FS (daysSet low) := fd.mono (by omega) (by decide)
  have j1 : leastWay (shiftLad d (countsL (laterS d s))) = countsL s := leastWay_congr (show 0 < (shiftLad d (countsL (laterS d s))).turn.length by rw [show (shiftLad d (countsL (laterS d s))).turn.length = _ from firstN_length _ _]; exact cnt_pos hup.ok) (by rw [show (cntLad s).turn.length = s.len from firstN_length _ _]; exact hs.ok.pos) fun n => by
    rw [tells_shiftLad (cnt_pos hup.ok), tells_counts hup.ok, cnt_later hs.ok, tells_cntLad hs.ok]
  have v1 : tells (countsL (laterS d s)) d = 0 := by
    rw [tells_counts hup.ok]
    exact cnt_later hs.ok d 0
  have v2 : tells (countsL s) d = cnt s d := tells_counts hs.ok d
  have c0 := cnt_bound s d
  have shp : 0 < (shiftLad d (countsL s)).turn.length := by
    rw [show (shiftLad d (countsL s)).turn.length = _ from firstN_length _ _]
    exact cnt_pos hs.ok
  have j2 : leastWay (addLad (countsL (downS d s)) ⟨[], [cnt s d], 0⟩) = leastWay (shiftLad d (countsL s)) := leastWay_congr (add_pos (cnt_pos hdn.ok) (show 0 < 1 by decide)) shp fun n => by
    rw [tells_addLad (l := countsL (downS d s)) (k := ⟨[], [cnt s d], 0⟩) (cnt_pos hdn.ok) (show 0 < 1 by decide), tells_counts hdn.ok, flat_tells, tells_shiftLad (cnt_pos hs.ok), tells_counts hs.ok, cnt_down hs.ok]
  have j3 : downS d (laterS d s) = leastS s := canon_ext (canon_down hup.ok d) (canon_least hs.ok) fun n => by
    rw [bit_down hup.ok, bit_later hs.ok, if_neg (by omega), Nat.add_sub_cancel, bit_least hs.ok]
  have j4 : eitherS (laterS d (downS d s)) (daysSet low) = leastS s := canon_ext (canon_either hld.ok hday.ok) (canon_least hs.ok) fun n => by
    rw [bit_either hld.ok hday.ok, bit_later hdn.ok, bit_least hs.ok, bd]
    by_cases hn : n < d
    · rw [if_pos hn]
      by_cases hm : (n : Int) ∈ low
      · rw [if_pos hm, ((lowm n).mp hm).2]
        decide
      · rw [if_neg hm]
        rcases bit_01 s n with z | z
        · rw [z]
          decide
        · exact absurd ((lowm n).mpr ⟨hn, z⟩) hm
    · rw [if_neg hn, bit_down hs.ok, show n - d + d = n by omega, if_neg fun z => hn ((lowm n).mp z).1]
      rcases bit_01 s n with z | z <;> rw [z] <;> decide
  have okS : ReprOk (setD (leastS s)) := repr_set (fit_row h1) (by decide) (by decide)
  have okL : ReprOk (ladD (countsL s)) := repr_counts hs (by decide) (by decide)
  have okJ : ReprOk (ladD (leastWay (shiftLad d (countsL s)))) := by
    have f := cnt_fit h1 (by decide)
    have r := counts_rise h1
    have e := f.early
    have t := f.turn
    refine repr_least shp ?_ ?_ (fun n hn => ?_) r.1 (Int.le_trans r.2 (by decide))
    · rw [show (shiftLad d (countsL s)).early.length = (countsL s).early.length - d from firstN_length _ _]
      omega
    · rw [show (shiftLad d (countsL s)).turn.length = (countsL s).turn.length from firstN_length _ _]
      omega
    · rw [tells_shiftLad (cnt_pos hs.ok), tells_counts hs.ok]
      have := cnt_bound s (d + n)
      omega
  refine x_par (d1 := ladD ⟨[], [(d : Int)], 1⟩) (d2 := ladD (countsL s)) (ea_cons (ev_tup (ea_cons (ev_lst ea_nil) (ea_cons (ev_lst (ea_cons (ev_var rfl) ea_nil)) (ea_cons ev_int ea_nil)))) (ea_cons (c_counts (ev_var rfl) hs) ea_nil)) ?_
  refine x_par (d1 := setD (laterS d s)) (d2 := setD (downS d s)) (ea_cons (c_later (ev_var rfl) (ev_var rfl) hs (by omega)) (ea_cons (c_down (ev_var rfl) (ev_var rfl) hs (by omega)) ea_nil)) ?_
  refine x_if (b := false) (EvT.to (a := false || false) (et_or (et_reprNe okL ((c_join (ev_var rfl) (c_counts (ev_var rfl) hup) hup.cok).to (by rw [j1])) (ev_var rfl)) fun _ => EvT.to (b := false) (et_test (ev_neI (ev_call (ea_cons (c_counts (ev_var rfl) hup) (ea_cons (ev_var rfl) ea_nil)) ⟨countsL (laterS d s), d, rfl, hup.cok, rfl⟩) ev_int)) (by rw [v1]; rfl)) rfl) (fun e => nomatch e) fun _ => ?_
  refine x_set (d := ladD ⟨[], [cnt s d], 0⟩) (ev_tup (ea_cons (ev_lst ea_nil) (ea_cons (ev_lst (ea_cons ((ev_call (ea_cons (ev_var rfl) (ea_cons (ev_var rfl) ea_nil)) ⟨countsL s, d, rfl, hs.cok, rfl⟩).to (by rw [v2])) ea_nil)) (ea_cons ev_int ea_nil)))) ?_
  refine x_if (et_reprNe okJ ((ev_call (ea_cons (c_counts (ev_var rfl) hdn) (ea_cons (ev_var rfl) ea_nil)) ⟨countsL (downS d s), ⟨[], [cnt s d], 0⟩, rfl, hdn.cok, flat_ok c0.1, ?_, ?_, rfl⟩).to (by rw [j2])) (c_join (ev_var rfl) (ev_var rfl) hs.cok)) (fun e => nomatch e) fun _ => ?_
  · exact Nat.le_trans (lcm_le (cnt_pos hdn.ok) (show 0 < 1 by decide) (cnt_fit hdn (by decide)).turn (Nat.le_refl 1)) (by decide)
  · exact add_rise (a := 300) (b := 0) (c := 300) (d := 1) (cnt_pos hdn.ok) (show 0 < 1 by decide) (counts_rise hdn).1 (counts_rise hdn).2 (Int.le_refl 0) (Int.le_refl 0) (cnt_fit hdn (by decide)).turn (Nat.le_refl 1) (by decide)
  refine x_if (et_reprNe okS ((c_down (ev_var rfl) (ev_var rfl) hup (by omega)).to (by rw [j3])) (c_least (ev_var rfl) hs)) (fun e => nomatch e) fun _ => ?_
  refine x_set (d := iL low) ((ev_has (k := 0) hs.ok (Nat.le_of_ble_eq_true rfl) (ev_var rfl) (by omega) (fun x => ev_var rfl) fun m => (ev_var rfl).to (by rw [Nat.zero_add])).to (by rw [hlow])) ?_
  exact w_ret (ev_reprEq okS ((c_either (c_later (ev_var rfl) (ev_var rfl) hdn (by omega)) (ev_call (ea_cons (ev_var rfl) ea_nil) ⟨low, rfl, asc.1, by have := asc_length asc; omega, fun x hx => (asc.2 x hx).1, rfl⟩) hld hday).to (by rw [j4])) (c_least (ev_var rfl) hs)) rfl
theorem w_z_moved_right (ds : List D) (acc : List D) (R : D → List D → Prop) (h : S_z_moved_right ds acc R) : WM 0 (t_z_moved_right K) (none :: (startD 10 (.none :: ds)).tail) acc no2 no2 no2 R := by
  obtain ⟨s, n, rfl, fit, hn, ok, hR⟩ := h
  refine wm_seq (M := fun δ a => ∃ d : Nat, d < 21 ∧ δ = [none, some (setD s), some (.int (d : Int)), none, none, none, none, none, none, none]) (wm_setM (by decide) (em_pick (many := 21) ev_int (by decide) (by decide) (by omega) ok fun k a hk _ => ⟨k, hk, rfl⟩)) ?_
  rintro δ a ⟨d, hd, rfl⟩
  exact wm_pure (w_moved_rest fit hd) fun r hr => by
    subst hr
    exact hR a
theorem w_z_right (ds : List D) (acc : List D) (R : D → List D → Prop) (h : S_z_right ds acc R) : WM 0 (t_z_right K) (none :: (startD 5 (.none :: ds)).tail) acc no2 no2 no2 R := by
  obtain ⟨rfl, ok, hR⟩ := h
  refine wm_seq (M := fun δ a => (∃ m : Nat, (m = 6 ∨ m = 12) ∧ δ = [none, some (.int (m : Int)), none, none, none]) ∧ SackOk 1 a)
    (wm_setM (by decide) (em_pickIx (n := 0) (many := 2) (ev_lst (ea_cons ev_int (ea_cons ev_int ea_nil))) ev_int rfl (by decide) (by decide) (by decide) ok fun d a hd ok1 => ⟨?_, ok1⟩)) ?_
  · rcases List.mem_cons.mp hd with rfl | hd
    · exact ⟨12, .inr rfl, rfl⟩
    · rw [List.mem_singleton.mp hd]
      exact ⟨6, .inl rfl, rfl⟩
  rintro δ a ⟨⟨m, hm, rfl⟩, ok1⟩
  refine wm_seq (M := fun δ a => (∃ s t, SetFit s 8 12 ∧ SetFit t 15 24 ∧ δ = [none, some (.int (m : Int)), some (setD s), some (setD t), none]) ∧ SackOk 101 a)
    (wm_parM (by decide) (by decide) (ema_cons (R1 := fun d a => (∃ s, SetFit s 8 12 ∧ d = setD s) ∧ SackOk 51 a) (em_call (ema_pure (ea_cons (ev_var rfl) ea_nil) ⟨m, 1, rfl, hm, by decide, ok1, fun s a fs ok2 => ⟨⟨s, fs, rfl⟩, ok2⟩⟩)) fun x a hx => ?_)) ?_
  · obtain ⟨⟨s, fs, rfl⟩, ok2⟩ := hx
    refine ema_cons (R1 := fun d a => (∃ s, SetFit s 8 12 ∧ d = setD s) ∧ SackOk 101 a) (em_call (ema_pure (ea_cons (ev_var rfl) ea_nil) ⟨m, 51, rfl, hm, by decide, ok2, fun s a fs ok2 => ⟨⟨s, fs, rfl⟩, ok2⟩⟩)) fun x a hx => ?_
    obtain ⟨⟨t, ft, rfl⟩, ok3⟩ := hx
    exact ema_nil ⟨_, _, rfl, ⟨s, t, fs, ft.mono (by decide) (by decide), rfl⟩, ok3⟩
  rintro δ a ⟨⟨s, t, fs, ft, rfl⟩, ok3⟩
  refine wm_seq (M := fun δ a => (∃ s t, SetFit s 8 12 ∧ SetFit t 15 24 ∧ δ = [none, some (.int (m : Int)), some (setD s), some (setD t), none]) ∧ SackOk 200 a)
    (wm_ifM (emt_pick0 (many := 4) ev_int (by decide) (by decide) (by decide) ok3 fun b a ok4 => ⟨fun _ => wm_setM (by decide) (em_call (ema_pure (ea_cons (ev_var rfl) (ea_cons ev_int ea_nil)) ⟨s, 102, rfl, fs, by decide, ok4, fun t a ft ok5 => ⟨⟨s, t, fs, ft, rfl⟩, ok5.mono (by decide)⟩⟩)), fun _ => wm_next ⟨⟨s, t, fs, ft, rfl⟩, ok4.mono (by decide)⟩⟩)) ?_
  rintro δ a ⟨⟨s, t, fs, ft, rfl⟩, ok4⟩
  have okr : ReprOk (.list [setD s, setD t]) := repr_sets fs (by decide) (by decide) ft (by decide) (by decide)
  refine wm_seq (M := fun δ a' => δ = [none, some (.int (m : Int)), some (setD s), some (setD t), some (.str (PyData.shown (.list [setD s, setD t])))] ∧ a' = a) (wm_set (ev_reprO (ev_lst (ea_cons (ev_var rfl) (ea_cons (ev_var rfl) ea_nil))) okr) (by decide) ⟨rfl, rfl⟩) ?_
  rintro δ a' ⟨rfl, rfl⟩
  refine wm_seq (M := fun δ a => δ = [none, some (.int (m : Int)), some (setD s), some (setD t), some (.str (PyData.shown (.list [setD s, setD t])))] ∧ a = a')
    (wm_if (et_or (et_not (et_B (ev_call (ea_cons (ev_var rfl) (ea_cons (ev_var rfl) ea_nil)) ⟨s, t, rfl, fs, ft, rfl⟩))) fun _ => et_not (et_B (ev_call (ea_cons (ev_var rfl) (ea_cons (ev_var rfl) ea_nil)) ⟨s, t, rfl, fs, ft, rfl⟩))) (fun e => nomatch e) fun _ => wm_next ⟨rfl, rfl⟩) ?_
  rintro δ a ⟨rfl, rfl⟩
  refine wm_retM (em_andV (b := true) (a := true) (R1 := fun _ _ => True) (em_call (ema_pure (ea_cons (ev_var rfl) ea_nil) ⟨s, 200, rfl, fs, by decide, ok4, fun a => ⟨rfl, True.intro⟩⟩)) fun a' _ => em_pure ((ev_eqS (ev_reprO (ev_lst (ea_cons (ev_var rfl) (ea_cons (ev_var rfl) ea_nil))) okr) (ev_var rfl)).to (by rw [decide_eq_true rfl])) (hR a'))
end
end LD
/-! LE: the sack from the script, the law, the law's end. -/
namespace LD
open PySem PySem.Spec PyProof.Rows L2 LM
theorem sq_same {K : PySem.W.Frag} {H H' : Hp} {a : Addr} {xs : List V} (h : SqL K H a xs) (e : Same H H') : SqL K H' a xs :=
  h.elim (fun h => .inl (h.elim (fun h => .inl (e _ _ h)) fun ⟨o, h⟩ => .inr ⟨o, e _ _ h⟩)) fun h => .inr h
theorem same_empty (H : Hp) : Same (fun _ => none) H := fun b o e => nomatch e
theorem atI_ints {ns : List Int} {i : Nat} (h : i < ns.length) : atI (ns.map V.int) (i : Int) = some (.int (ns.getD i 0)) := by
  unfold atI
  rw [List.length_map, ixN_of h]
  show (ns.map V.int)[i]? = _
  rw [List.getElem?_map, getD_of h]
  rfl
theorem raw_seq {te : TE} {i : Nat} {u : TS} {E : Ends} {σ : L2.St} {H : Hp} (h : te σ H fun v H1 => u E (σ.set i (some v)) H1) : tSeq (tAsg te (gName i)) u E σ H := h
theorem raw_if {t : TT} {ta tb : TE} {σ : L2.St} {H : Hp} {Q : VK} (h : t σ H fun c H1 => if c = true then ta σ H1 Q else tb σ H1 Q) : tIf t ta tb σ H Q := h
theorem raw_len {K : PySem.W.Frag} {i : Nat} {σ : L2.St} {H : Hp} {Q : VK} {a : Addr} {xs : List V} (h : σ[i]? = some (some (.ref a))) (hs : SqL K H a xs) (q : Q (.int xs.length) H) : tCB (rLenQ K) (tCons (tVar i) tNil) σ H Q := ⟨.ref a, h, a, xs, rfl, .inl hs, q⟩
theorem raw_lt {i : Nat} {k : Int} {tb : TE} {σ : L2.St} {H : Hp} {Q : Bool → Hp → Prop} (h : σ[i]? = some (some (.int k))) (hb : tb σ H fun y H2 => ∃ j, y = .int j ∧ Q (decide (k < j)) H2) (mono : ∀ P R : VK, (∀ v H, P v H → R v H) → tb σ H P → tb σ H R) : tTest (tOp rLt (tVar i) tb) σ H Q :=
  ⟨.int k, h, mono _ _ (fun v H2 ⟨j, e, q⟩ => ⟨k, j, rfl, e, _, rfl, q⟩) hb⟩
theorem ev_ten {δ : DE} {p : Nat} (hp : p ≤ 40) : EvD (tOp rPowW (tC (.int 10)) (tC (.int (p : Int)))) δ (.int ((10 ^ p : Nat) : Int)) := by
  have b2 : Builtin.Int.intBits (10 : Int) ≤ 4 := by decide
  have m2 : (Builtin.Int.intBits (10 : Int) : Int) * (p : Int) ≤ 4 * 40 := Int.mul_le_mul (by omega) (by omega) (by omega) (by omega)
  refine (ev_pow (ev_int (i := 10)) (ev_int (i := (p : Int))) (by omega) (Int.le_trans m2 (by decide))).to ?_
  rw [Int.toNat_natCast, Int.natCast_pow]
  rfl
theorem raw_retlst {t : TA} {E : Ends} {σ : L2.St} {H : Hp} (h : t σ H fun xs H1 => xs.length ≤ sizeLine ∧ ∀ p, H1 p = none → E.rt (.ref p) (upd H1 p (.lst xs))) : tRet (tLst t) E σ H := h
theorem ea_sack {δ : DE} {i : Nat} {cell : Int} (h1 : δ[1]? = some (some (.int (i : Int)))) (h2 : δ[2]? = some (some (.int cell))) :
    EvA (tCons (tCB rMax2 (tCons (tC (.int 0)) (tCons (tOp rSub (tCB rAbs (tCons (tVar 2) tNil)) (tOp rPowW (tC (.int 10)) (tC (.int 18)))) tNil))) (tCons (tOp rMod (tCB rInt1 (tCons (tOp rAdd (tOp rAdd (tOp rMul (tVar 2) (tC (.int 39119))) (tOp rMul (tVar 1) (tC (.int 8675309)))) (tC (.int 7919))) tNil)) (tOp rAdd (tOp rPowW (tC (.int 10)) (tC (.int 36))) (tC (.int 67)))) (tCons (tC (.int 0)) tNil)))
      δ [.int (max 0 ((if cell < 0 then -cell else cell) - ((10 ^ 18 : Nat) : Int))), .int ((cell * 39119 + (i : Int) * 8675309 + 7919) % ((10 ^ 36 + 67 : Nat) : Int)), .int 0] := by
  have c1 : EvD (tOp rPowW (tC (.int 10)) (tC (.int 18))) δ (.int ((10 ^ 18 : Nat) : Int)) := ev_ten (p := 18) (by decide)
  have c2 : EvD (tOp rPowW (tC (.int 10)) (tC (.int 36))) δ (.int ((10 ^ 36 : Nat) : Int)) := ev_ten (p := 36) (by decide)
  have c3 : EvD (tOp rAdd (tOp rPowW (tC (.int 10)) (tC (.int 36))) (tC (.int 67))) δ (.int ((10 ^ 36 + 67 : Nat) : Int)) := ev_addN (b := 67) c2 ev_int
  have mp : (0 : Int) < ((10 ^ 36 + 67 : Nat) : Int) := Int.natCast_pos.mpr (Nat.add_pos_right _ (by decide))
  generalize (10 ^ 36 + 67 : Nat) = m at *
  generalize (10 ^ 18 : Nat) = n at *
  exact ea_cons (ev_max2 ev_int (ev_sub (ev_abs (ev_var h2)) c1)) (ea_cons (ev_mod (ev_intI (ev_add (ev_add (ev_mul (ev_var h2) ev_int (.inr ⟨by decide, by decide⟩)) (ev_mul (ev_var h1) ev_int (.inr ⟨by decide, by decide⟩))) ev_int)) c3 mp) (ea_cons ev_int ea_nil))
theorem w_z_sack {K : PySem.W.Frag} (vs : List V) (H : Hp) (Q : VK) (E : XK) (h : sp_z_sack K vs H Q E) : t_z_sack K { nx := fun _ H' => Q .non H', rt := Q } (L2.start ["_law_script", "_law_rank", "_law_cell"] vs) H := by
  obtain ⟨a, ns, i, rfl, hS, hi, hQ⟩ := h
  -- what comes behind the cell
  have fin : ∀ cell : Int, tRet (tLst (tCons (tCB rMax2 (tCons (tC (.int 0)) (tCons (tOp rSub (tCB rAbs (tCons (tVar 2) tNil)) (tOp rPowW (tC (.int 10)) (tC (.int 18)))) tNil))) (tCons (tOp rMod (tCB rInt1 (tCons (tOp rAdd (tOp rAdd (tOp rMul (tVar 2) (tC (.int 39119))) (tOp rMul (tVar 1) (tC (.int 8675309)))) (tC (.int 7919))) tNil)) (tOp rAdd (tOp rPowW (tC (.int 10)) (tC (.int 36))) (tC (.int 67)))) (tCons (tC (.int 0)) tNil))))
      { nx := fun _ H' => Q .non H', rt := Q } [some (.ref a), some (.int (i : Int)), some (.int cell)] H := by
    intro cell
    have sl : Sl [some (.ref a), some (.int (i : Int)), some (.int cell)] (fun _ => none) [none, some (.int (i : Int)), some (.int cell)] := ⟨rfl, fun j d hd => by
      match j, hd with
      | 1, hd =>
        have e : d = .int (i : Int) := (Option.some.inj (Option.some.inj hd)).symm
        subst e
        exact ⟨_, rfl, .int _⟩
      | 2, hd =>
        have e : d = .int cell := (Option.some.inj (Option.some.inj hd)).symm
        subst e
        exact ⟨_, rfl, .int _⟩⟩
    have ea := ea_sack (δ := [none, some (.int (i : Int)), some (.int cell)]) (i := i) (cell := cell) rfl rfl
    refine raw_retlst (ea _ _ H (same_empty H) sl _ fun ws F' H' e r => ?_)
    obtain ⟨u, v, x, rfl, r1, r2, r3⟩ := rps3 r
    rw [r1.int_of, r2.int_of, r3.int_of]
    refine ⟨Nat.le_of_ble_eq_true rfl, fun p hp => ?_⟩
    have mp : (0 : Int) < ((10 ^ 36 + 67 : Nat) : Int) := Int.natCast_pos.mpr (Nat.add_pos_right _ (by decide))
    have m0 := Int.emod_nonneg (cell * 39119 + (i : Int) * 8675309 + 7919) (Int.ne_of_gt mp)
    have m1 := Int.emod_lt_of_pos (cell * 39119 + (i : Int) * 8675309 + 7919) mp
    have m2 : (10 ^ 36 + 67 : Nat) < 10000000000000000000000000000000000000 := by decide
    generalize (10 ^ 36 + 67 : Nat) = m at *
    generalize (cell * 39119 + (i : Int) * 8675309 + 7919) % (m : Int) = z at *
    generalize hw : max 0 ((if cell < 0 then -cell else cell) - ((10 ^ 18 : Nat) : Int)) = c
    have hc : 0 ≤ c := by
      rw [← hw]
      omega
    have q := hQ p c.toNat z.toNat H' e.h hp (by omega)
    rw [Int.toNat_of_nonneg hc, Int.toNat_of_nonneg m0] at q
    exact q
  have hst : L2.start ["_law_script", "_law_rank", "_law_cell"] [.ref a, .int (i : Int)] = [some (.ref a), some (.int (i : Int)), none] := rfl
  rw [hst]
  unfold t_z_sack
  refine raw_seq (raw_if (raw_lt rfl (raw_len rfl hS ⟨_, rfl, ?_⟩) fun P R hPR hP => ?_))
  · by_cases hlt : i < ns.length
    · rw [decide_eq_true (by rw [List.length_map]; omega), if_pos rfl]
      exact ⟨.ref a, rfl, .int (i : Int), rfl, a, ns.map V.int, (i : Int), .int (ns.getD i 0), rfl, rfl, hS, atI_ints hlt, fin _⟩
    · rw [decide_eq_false (by rw [List.length_map]; omega), if_neg Bool.false_ne_true]
      exact fin 0
  · obtain ⟨v, hv, b, xs, e, h2, h3⟩ := hP
    exact ⟨v, hv, b, xs, e, h2, hPR _ _ h3⟩
theorem raw_for {wi : TI} {g : TG} {tb u : TS} {E : Ends} {σ : L2.St} {H : Hp} (h : wi σ H fun J H1 => ∃ W : Nat → Nat → L2.St → Hp → Prop, (∃ m, W 0 m σ H1) ∧ ∀ i m σ H, W i m σ H →
    (J.stop i H ∧ u E σ H) ∨ (J.go i H ∧ ∃ N : L2.St → Hp → Prop, (∀ σ' H', N σ' H' → ∃ m', m' < m ∧ W (i + 1) m' σ' H') ∧ ∀ x H', J.yld i H x H' → g x σ H' fun σ2 H2 => tb { nx := N, ct := N, bk := u E, rt := E.rt } σ2 H2)) : tSeq (tFor wi g tb) u E σ H := h
theorem raw_rng {K : PySem.W.Frag} {a : Addr} {ns : List Int} {x : Option V} {H : Hp} {R : It → Hp → Prop} (hS : SqL K H a (ns.map V.int)) (h : ∀ m : Int, 1 ≤ m ∧ m ≤ 3 → R (Itr 0 m.toNat) H) :
    iRng1 (tCons (tCB rMax2 (tCons (tC (.int 1)) (tCons (tCB rMin2 (tCons (tC (.int 3)) (tCons (tCB (rLenQ K) (tCons (tVar 0) tNil)) tNil))) tNil))) tNil) [some (.ref a), x] H R := by
  refine ⟨.ref a, rfl, a, ns.map V.int, rfl, .inl hS, 3, _, rfl, 1, _, rfl, _, rfl, ?_⟩
  generalize (((ns.map V.int).length : Nat) : Int) = l
  have m1 : 1 ≤ (if (if l < 3 then l else 3) > 1 then (if l < 3 then l else 3) else 1 : Int) ∧ (if (if l < 3 then l else 3) > 1 then (if l < 3 then l else 3) else 1 : Int) ≤ 3 := by
    split <;> split <;> omega
  exact ⟨by omega, by omega, h _ m1⟩
theorem w_law {K : PySem.W.Frag} (vs : List V) (H : Hp) (Q : VK) (E : XK) (h : sp_law K vs H Q E) : t_law K { nx := fun _ H' => Q .non H', rt := Q } (L2.start ["_law_script", "_law_rank"] vs) H := by
  obtain ⟨a, ns, rfl, hS, hQ⟩ := h
  have hst : L2.start ["_law_script", "_law_rank"] [.ref a] = [some (.ref a), none] := rfl
  rw [hst]
  unfold t_law
  refine raw_for ?_
  refine raw_rng (ns := ns) hS fun m m1 => ?_
  refine ⟨fun k n σ' H' => n = m.toNat - k ∧ k ≤ m.toNat ∧ Same H H' ∧ ∃ x, σ' = [some (.ref a), x], ⟨m.toNat, by omega, Nat.zero_le _, Same.refl H, none, rfl⟩, ?_⟩
  rintro k n σ' H' ⟨rfl, hk, sm, x, rfl⟩
  by_cases hlt : k < m.toNat
  · refine .inr ⟨hlt, fun σ2 H2 => Same H H2 ∧ ∃ x, σ2 = [some (.ref a), x], fun σ2 H2 w => ⟨m.toNat - (k + 1), by omega, rfl, hlt, w⟩, fun y H2 hy => ?_⟩
    obtain ⟨e1, e2⟩ := hy
    subst e1 e2
    rw [Int.zero_add]
    refine ⟨.ref a, rfl, .int (k : Int), rfl, a, ns, k, rfl, sq_same hS sm, by omega, fun p x y H3 s3 hp hy => ?_⟩
    refine ⟨p, [], fun _ => none, [.int (x : Int), .int (y : Int), .int 0], [], fun d _ => d = .bool true, rfl, ⟨rfl, same_empty _, [.int (x : Int), .int (y : Int), .int 0], upd_same, .cons (.int _) (.cons (.int _) (.cons (.int _) .nil))⟩, .nil, ⟨rfl, ⟨x, y, 0, rfl, hy, Nat.le_refl 0⟩, fun _ => rfl⟩, fun v F' H4 d acc' e4 m4 r4 hd => ?_⟩
    subst hd
    refine ⟨true, r4.bl_of, ?_⟩
    show if (!true) = true then _ else _
    rw [if_neg (by decide)]
    refine ⟨fun b o e => ?_, _, rfl⟩
    have h3 := s3 b o (sm b o e)
    have hb : b ≠ p := fun z => by rw [z, hp] at h3; cases h3
    exact e4.h b hb o (by rw [upd_ne hb]; exact h3)
  · exact .inl ⟨by show m.toNat ≤ k; omega, hQ H'⟩
theorem walk_end {l : PySem.W.OpenLaw} {n k : Nat} {q : Program} {loose : List Str} {XP : (Str → Option Value) → Heap → Prop} {YP : World → Heap → Prop} {d : DefRec} {x : Str} (hn : l.most = some n) (hn2 : n ≤ sizeLine) (hdf : d.params.defaults = []) (hr : Room k callerA)
    (F : ∀ (w : World) (mg : Str → Option Value) (fa : Addr) (h : Heap), YP w h → h.Ns mainGlobals mg → mg d.name = some (.ref fa) → ∃ (K : PySem.W.Frag) (fd : FuncData), K.In h ∧ (∀ (s : Shared) (u : Value), BindsTo s fd ⟨[u], []⟩ [(x, u)]) ∧
      ∀ base : Heap, K.In base → base.Ns mainGlobals mg → FnG l.prog w K mg base k fa fd [x] (sp_law K)) :
    PySem.W.WalkO q loose XP YP l.row.toRowW d [] (fun f vs => PySem.call f vs) := by
  refine Att.attach_call hn hdf fun w s₀ s mg mb fa o pm cd doc a vs ns G Y ho hd hcd hmg hobj hints hlen hg => ?_
  obtain ⟨K, fd, KX, hb, hF⟩ := F w mg fa _ Y G.T.g hmg
  exact law_end KX G.T.g G.T.b G.T.builtins G.T.nolimit hg hobj hints (Nat.le_trans hlen hn2) hr hF hb fun H hS => ⟨a, ns, rfl, hS, fun _ => rfl⟩
end LD
/-! Der: the defs of the text have these readings (printed by gen.py). -/
namespace LD
open PySem PySem.Spec PyProof.Rows L2
def topS (i : Nat) : Stmt := PySem.Challenge.pw_ladderdays_k13_whole_sets_by_ladders.main.body.getD i (.Pass ⟨0, 0, 0, 0⟩)
/-- no name of a built-in is taken by the module -/
structure Txt (mg : Str → Option Value) : Prop where
  len : mg "len" = none
  max : mg "max" = none
  min : mg "min" = none
  abs : mg "abs" = none
  sum : mg "sum" = none
  all : mg "all" = none
  int : mg "int" = none
  divmod : mg "divmod" = none
  range : mg "range" = none
  zip : mg "zip" = none
  enumerate : mg "enumerate" = none
  repr : mg "repr" = none
  sorted : mg "sorted" = none
  set : mg "set" = none
abbrev s_never_falls : Stmt := topS 8
abbrev n_never_falls : List Str := ["numbers", "one", "other"]
abbrev p_never_falls : List Str := ["numbers"]
theorem sc_never_falls : FnScope n_never_falls p_never_falls (defScope s_never_falls) := ⟨rfl, rfl, rfl, by decide +kernel, rfl, by decide +kernel, by decide +kernel⟩
theorem d_never_falls {P : Program} {w : World} {K : PySem.W.Frag} {mg : Str → Option Value} {base : Heap} (Tx : Txt mg) {f : Addr} {cdv : Value} {A : Around} {outer : List Env} {s : Shared} {H : Hp} {E : XK} (hr : Room 0 (A.deeper (envOfC "never_falls" (defScope s_never_falls) s.heap.objs.size f cdv))) :
    PSs (cxOf CX0 P w K mg base n_never_falls "never_falls" (defScope s_never_falls) f cdv A outer s H E).nox (defBody s_never_falls) (t_never_falls K) :=
  have nd := sc_never_falls.nd
  (pss_one (ps_ret (pe_callB (cr_all rfl) (by rfl) Tx.all (by decide +kernel) (pa_cons (pe_lc (own := [("one", 1), ("other", 2)]) (g := (gTup K 2 (gCons (gName 1) (gCons (gName 2) gNil)))) (tt := tYes) rfl nd (pi_zip (by rfl) Tx.zip (pa_cons (pv 0) (pa_cons (pe_slice sl_list (pv 0) (po_some pe_int) po_none) pa_nil))) (blkOk_by (own := [("one", 1), ("other", 2)]) (N := n_never_falls) (sc := defScope s_never_falls) (by decide +kernel)) (fun _ _ _ _ _ => (pg_tup rfl (pgs_cons (pg_name (i := 1) nd rfl (by first | exact Or.inl rfl | exact Or.inr rfl)) (pgs_cons (pg_name (i := 2) nd rfl (by first | exact Or.inl rfl | exact Or.inr rfl)) pgs_nil)))) (fun _ _ _ _ _ => pts_nil) (fun _ _ _ _ _ => (pe_cmpR op_le (pv 1) (pv 2) (nomark _)))) pa_nil))))
abbrev s_always_rises : Stmt := topS 9
abbrev n_always_rises : List Str := ["numbers", "one", "other"]
abbrev p_always_rises : List Str := ["numbers"]
theorem sc_always_rises : FnScope n_always_rises p_always_rises (defScope s_always_rises) := ⟨rfl, rfl, rfl, by decide +kernel, rfl, by decide +kernel, by decide +kernel⟩
theorem d_always_rises {P : Program} {w : World} {K : PySem.W.Frag} {mg : Str → Option Value} {base : Heap} (Tx : Txt mg) {f : Addr} {cdv : Value} {A : Around} {outer : List Env} {s : Shared} {H : Hp} {E : XK} (hr : Room 0 (A.deeper (envOfC "always_rises" (defScope s_always_rises) s.heap.objs.size f cdv))) :
    PSs (cxOf CX0 P w K mg base n_always_rises "always_rises" (defScope s_always_rises) f cdv A outer s H E).nox (defBody s_always_rises) (t_always_rises K) :=
  have nd := sc_always_rises.nd
  (pss_one (ps_ret (pe_callB (cr_all rfl) (by rfl) Tx.all (by decide +kernel) (pa_cons (pe_lc (own := [("one", 1), ("other", 2)]) (g := (gTup K 2 (gCons (gName 1) (gCons (gName 2) gNil)))) (tt := tYes) rfl nd (pi_zip (by rfl) Tx.zip (pa_cons (pv 0) (pa_cons (pe_slice sl_list (pv 0) (po_some pe_int) po_none) pa_nil))) (blkOk_by (own := [("one", 1), ("other", 2)]) (N := n_always_rises) (sc := defScope s_always_rises) (by decide +kernel)) (fun _ _ _ _ _ => (pg_tup rfl (pgs_cons (pg_name (i := 1) nd rfl (by first | exact Or.inl rfl | exact Or.inr rfl)) (pgs_cons (pg_name (i := 2) nd rfl (by first | exact Or.inl rfl | exact Or.inr rfl)) pgs_nil)))) (fun _ _ _ _ _ => pts_nil) (fun _ _ _ _ _ => (pe_cmpR op_lt (pv 1) (pv 2) (nomark _)))) pa_nil))))
abbrev s_is_ladder : Stmt := topS 10
abbrev n_is_ladder : List Str := ["ladder", "early", "turn", "rise"]
abbrev p_is_ladder : List Str := ["ladder"]
theorem sc_is_ladder : FnScope n_is_ladder p_is_ladder (defScope s_is_ladder) := ⟨rfl, rfl, rfl, by decide +kernel, rfl, by decide +kernel, by decide +kernel⟩
theorem d_is_ladder {P : Program} {w : World} {K : PySem.W.Frag} {mg : Str → Option Value} {base : Heap} (c_never_falls : Callee P w K mg base 1 "never_falls" p_never_falls sp_never_falls) {f : Addr} {cdv : Value} {A : Around} {outer : List Env} {s : Shared} {H : Hp} {E : XK} (hr : Room 1 (A.deeper (envOfC "is_ladder" (defScope s_is_ladder) s.heap.objs.size f cdv))) :
    PSs (cxOf CX0 P w K mg base n_is_ladder "is_ladder" (defScope s_is_ladder) f cdv A outer s H E).nox (defBody s_is_ladder) (t_is_ladder K) :=
  have nd := sc_is_ladder.nd
  (pss_cons (ps_asg (pv 0) (pg_tup rfl (pgs_cons (pg_name (i := 1) nd rfl (by first | exact Or.inl rfl | exact Or.inr rfl)) (pgs_cons (pg_name (i := 2) nd rfl (by first | exact Or.inl rfl | exact Or.inr rfl)) (pgs_cons (pg_name (i := 3) nd rfl (by first | exact Or.inl rfl | exact Or.inr rfl)) pgs_nil)))))
    (pss_cons (ps_if (PW.pt (pw_or (pt_cmpR (op_eqD hr.units) (pv 2) (pe_lst pa_nil) (nomark _)) (pw_or1 (pt_cmpR op_lt (pv 3) pe_int (nomark _))))) (pss_one (ps_ret pe_bl)) pss_nil)
    (pss_one (ps_ret (pe_callC c_never_falls (hr.mono (by decide)) (by rfl) (pa_cons (pe_op op_cat (pe_op op_cat (pe_op op_cat (pe_lst (pa_cons pe_int pa_nil)) (pv 1)) (pv 2)) (pe_lst (pa_cons (pe_op op_add (pe_ix ix_list (pv 2) pe_int (fun _ _ => rfl)) (pv 3)) pa_nil))) pa_nil))))))
abbrev s_is_set : Stmt := topS 11
abbrev n_is_set : List Str := ["told", "early", "first", "length", "found"]
abbrev p_is_set : List Str := ["told"]
theorem sc_is_set : FnScope n_is_set p_is_set (defScope s_is_set) := ⟨rfl, rfl, rfl, by decide +kernel, rfl, by decide +kernel, by decide +kernel⟩
theorem d_is_set {P : Program} {w : World} {K : PySem.W.Frag} {mg : Str → Option Value} {base : Heap} (c_always_rises : Callee P w K mg base 1 "always_rises" p_always_rises sp_always_rises) {f : Addr} {cdv : Value} {A : Around} {outer : List Env} {s : Shared} {H : Hp} {E : XK} (hr : Room 1 (A.deeper (envOfC "is_set" (defScope s_is_set) s.heap.objs.size f cdv))) :
    PSs (cxOf CX0 P w K mg base n_is_set "is_set" (defScope s_is_set) f cdv A outer s H E).nox (defBody s_is_set) (t_is_set K) :=
  have nd := sc_is_set.nd
  (pss_cons (ps_asg (pv 0) (pg_tup rfl (pgs_cons (pg_name (i := 1) nd rfl (by first | exact Or.inl rfl | exact Or.inr rfl)) (pgs_cons (pg_name (i := 2) nd rfl (by first | exact Or.inl rfl | exact Or.inr rfl)) (pgs_cons (pg_name (i := 3) nd rfl (by first | exact Or.inl rfl | exact Or.inr rfl)) (pgs_cons (pg_name (i := 4) nd rfl (by first | exact Or.inl rfl | exact Or.inr rfl)) pgs_nil))))))
    (pss_cons (ps_if (PW.pt (pw_or (pt_cmpR op_lt (pv 2) pe_int (nomark _)) (pw_or1 (pt_cmpR op_lt (pv 3) pe_int (nomark _))))) (pss_one (ps_ret pe_bl)) pss_nil)
    (pss_one (ps_ret (pe_and (pe_callC c_always_rises (hr.mono (by decide)) (by rfl) (pa_cons (pe_op op_cat (pe_op op_cat (pe_lst (pa_cons (pe_un un_neg pe_int) pa_nil)) (pv 1)) (pe_lst (pa_cons (pv 2) pa_nil))) pa_nil)) (pe_one (pe_callC c_always_rises (hr.mono (by decide)) (by rfl) (pa_cons (pe_op op_cat (pe_op op_cat (pe_lst (pa_cons (pe_un un_neg pe_int) pa_nil)) (pv 4)) (pe_lst (pa_cons (pv 3) pa_nil))) pa_nil))))))))
abbrev s_need_ladder : Stmt := topS 12
abbrev n_need_ladder : List Str := ["ladder"]
abbrev p_need_ladder : List Str := ["ladder"]
theorem sc_need_ladder : FnScope n_need_ladder p_need_ladder (defScope s_need_ladder) := ⟨rfl, rfl, rfl, by decide +kernel, rfl, by decide +kernel, by decide +kernel⟩
theorem d_need_ladder {P : Program} {w : World} {K : PySem.W.Frag} {mg : Str → Option Value} {base : Heap} (c_is_ladder : Callee P w K mg base 2 "is_ladder" p_is_ladder sp_is_ladder) {f : Addr} {cdv : Value} {A : Around} {outer : List Env} {s : Shared} {H : Hp} {E : XK} (hr : Room 2 (A.deeper (envOfC "need_ladder" (defScope s_need_ladder) s.heap.objs.size f cdv))) :
    PSs (cxOf CX0 P w K mg base n_need_ladder "need_ladder" (defScope s_need_ladder) f cdv A outer s H E).nox (defBody s_need_ladder) (t_need_ladder K) :=
  have nd := sc_need_ladder.nd
  (pss_one (ps_if (pt_not (pt_val (pe_callC c_is_ladder (hr.mono (by decide)) (by rfl) (pa_cons (pv 0) pa_nil)))) pss_never pss_nil))
abbrev s_need_set : Stmt := topS 13
abbrev n_need_set : List Str := ["told"]
abbrev p_need_set : List Str := ["told"]
theorem sc_need_set : FnScope n_need_set p_need_set (defScope s_need_set) := ⟨rfl, rfl, rfl, by decide +kernel, rfl, by decide +kernel, by decide +kernel⟩
theorem d_need_set {P : Program} {w : World} {K : PySem.W.Frag} {mg : Str → Option Value} {base : Heap} (c_is_set : Callee P w K mg base 2 "is_set" p_is_set sp_is_set) {f : Addr} {cdv : Value} {A : Around} {outer : List Env} {s : Shared} {H : Hp} {E : XK} (hr : Room 2 (A.deeper (envOfC "need_set" (defScope s_need_set) s.heap.objs.size f cdv))) :
    PSs (cxOf CX0 P w K mg base n_need_set "need_set" (defScope s_need_set) f cdv A outer s H E).nox (defBody s_need_set) (t_need_set K) :=
  have nd := sc_need_set.nd
  (pss_one (ps_if (pt_not (pt_val (pe_callC c_is_set (hr.mono (by decide)) (by rfl) (pa_cons (pv 0) pa_nil)))) pss_never pss_nil))
abbrev s_need_number : Stmt := topS 14
abbrev n_need_number : List Str := ["number", "least"]
abbrev p_need_number : List Str := ["number", "least"]
theorem sc_need_number : FnScope n_need_number p_need_number (defScope s_need_number) := ⟨rfl, rfl, rfl, by decide +kernel, rfl, by decide +kernel, by decide +kernel⟩
theorem d_need_number {P : Program} {w : World} {K : PySem.W.Frag} {mg : Str → Option Value} {base : Heap} {f : Addr} {cdv : Value} {A : Around} {outer : List Env} {s : Shared} {H : Hp} {E : XK} (hr : Room 0 (A.deeper (envOfC "need_number" (defScope s_need_number) s.heap.objs.size f cdv))) :
    PSs (cxOf CX0 P w K mg base n_need_number "need_number" (defScope s_need_number) f cdv A outer s H E).nox (defBody s_need_number) (t_need_number K) :=
  have nd := sc_need_number.nd
  (pss_one (ps_if (pt_cmpR op_lt (pv 0) (pv 1) (nomark _)) pss_never pss_nil))
abbrev s_common_divisor : Stmt := topS 16
abbrev n_common_divisor : List Str := ["one", "other"]
abbrev p_common_divisor : List Str := ["one", "other"]
theorem sc_common_divisor : FnScope n_common_divisor p_common_divisor (defScope s_common_divisor) := ⟨rfl, rfl, rfl, by decide +kernel, rfl, by decide +kernel, by decide +kernel⟩
theorem d_common_divisor {P : Program} {w : World} {K : PySem.W.Frag} {mg : Str → Option Value} {base : Heap} {f : Addr} {cdv : Value} {A : Around} {outer : List Env} {s : Shared} {H : Hp} {E : XK} (hr : Room 0 (A.deeper (envOfC "common_divisor" (defScope s_common_divisor) s.heap.objs.size f cdv))) :
    PSs (cxOf CX0 P w K mg base n_common_divisor "common_divisor" (defScope s_common_divisor) f cdv A outer s H E).nox (defBody s_common_divisor) (t_common_divisor K) :=
  have nd := sc_common_divisor.nd
  (pss_cons (ps_while PassesOwn.never (pt_cmpR op_gt (pv 1) pe_int (nomark _)) (pss_one (ps_par (i := 0) (j := 1) (by rfl) nd rfl rfl (by decide) rfl rfl (pa_cons (pv 1) (pa_cons (pe_op op_mod (pv 0) (pv 1)) pa_nil)) (by rfl))))
    (pss_one (ps_ret (pv 0))))
abbrev s_common_multiple : Stmt := topS 17
abbrev n_common_multiple : List Str := ["one", "other"]
abbrev p_common_multiple : List Str := ["one", "other"]
theorem sc_common_multiple : FnScope n_common_multiple p_common_multiple (defScope s_common_multiple) := ⟨rfl, rfl, rfl, by decide +kernel, rfl, by decide +kernel, by decide +kernel⟩
theorem d_common_multiple {P : Program} {w : World} {K : PySem.W.Frag} {mg : Str → Option Value} {base : Heap} (c_common_divisor : Callee P w K mg base 1 "common_divisor" p_common_divisor sp_common_divisor) {f : Addr} {cdv : Value} {A : Around} {outer : List Env} {s : Shared} {H : Hp} {E : XK} (hr : Room 1 (A.deeper (envOfC "common_multiple" (defScope s_common_multiple) s.heap.objs.size f cdv))) :
    PSs (cxOf CX0 P w K mg base n_common_multiple "common_multiple" (defScope s_common_multiple) f cdv A outer s H E).nox (defBody s_common_multiple) (t_common_multiple K) :=
  have nd := sc_common_multiple.nd
  (pss_one (ps_ret (pe_op op_fdiv (pe_op op_mul (pv 0) (pv 1)) (pe_callC c_common_divisor (hr.mono (by decide)) (by rfl) (pa_cons (pv 0) (pa_cons (pv 1) pa_nil))))))
abbrev s_prime_parts : Stmt := topS 18
abbrev n_prime_parts : List Str := ["number", "found", "left", "part"]
abbrev p_prime_parts : List Str := ["number"]
theorem sc_prime_parts : FnScope n_prime_parts p_prime_parts (defScope s_prime_parts) := ⟨rfl, rfl, rfl, by decide +kernel, rfl, by decide +kernel, by decide +kernel⟩
theorem d_prime_parts {P : Program} {w : World} {K : PySem.W.Frag} {mg : Str → Option Value} {base : Heap} {f : Addr} {cdv : Value} {A : Around} {outer : List Env} {s : Shared} {H : Hp} {E : XK} (hr : Room 0 (A.deeper (envOfC "prime_parts" (defScope s_prime_parts) s.heap.objs.size f cdv))) :
    PSs (cxOf CX0 P w K mg base n_prime_parts "prime_parts" (defScope s_prime_parts) f cdv A outer s H E).nox (defBody s_prime_parts) (t_prime_parts K) :=
  have nd := sc_prime_parts.nd
  (pss_cons (ps_set (i := 1) nd rfl (by first | exact Or.inl rfl | exact Or.inr rfl) (pe_lst pa_nil))
    (pss_cons (ps_par (i := 2) (j := 3) (by rfl) nd rfl rfl (by decide) rfl rfl (pa_cons (pv 0) (pa_cons pe_int pa_nil)) (by rfl))
    (pss_cons (ps_while PassesOwn.never (pt_cmpR op_gt (pv 2) pe_int (nomark _)) (pss_cons (ps_if (pt_cmpR op_eq (pe_op op_mod (pv 2) (pv 3)) pe_int (nomark _)) (pss_cons (ps_expr (pe_bm PySem.F.plainAttrs_list PySem.F.slot_list_append PySem.F.type_list_append mt_append (pv 1) (pa_cons (pv 3) pa_nil)))
    (pss_one (ps_while PassesOwn.never (pt_cmpR op_eq (pe_op op_mod (pv 2) (pv 3)) pe_int (nomark _)) (pss_one (ps_set (i := 2) nd rfl (by first | exact Or.inl rfl | exact Or.inr rfl) (pe_op op_fdiv (pv 2) (pv 3))))))) pss_nil)
    (pss_one (ps_aug (i := 3) nd rfl (by first | exact Or.inl rfl | exact Or.inr rfl) pe_int ip_add))))
    (pss_one (ps_ret (pv 1))))))
abbrev s_number_at : Stmt := topS 19
abbrev n_number_at : List Str := ["ladder", "day", "early", "turn", "rise", "times", "place"]
abbrev p_number_at : List Str := ["ladder", "day"]
theorem sc_number_at : FnScope n_number_at p_number_at (defScope s_number_at) := ⟨rfl, rfl, rfl, by decide +kernel, rfl, by decide +kernel, by decide +kernel⟩
theorem d_number_at {P : Program} {w : World} {K : PySem.W.Frag} {mg : Str → Option Value} {base : Heap} (Tx : Txt mg) {f : Addr} {cdv : Value} {A : Around} {outer : List Env} {s : Shared} {H : Hp} {E : XK} (hr : Room 0 (A.deeper (envOfC "number_at" (defScope s_number_at) s.heap.objs.size f cdv))) :
    PSs (cxOf CX0 P w K mg base n_number_at "number_at" (defScope s_number_at) f cdv A outer s H E).nox (defBody s_number_at) (t_number_at K) :=
  have nd := sc_number_at.nd
  (pss_cons (ps_asg (pv 0) (pg_tup rfl (pgs_cons (pg_name (i := 2) nd rfl (by first | exact Or.inl rfl | exact Or.inr rfl)) (pgs_cons (pg_name (i := 3) nd rfl (by first | exact Or.inl rfl | exact Or.inr rfl)) (pgs_cons (pg_name (i := 4) nd rfl (by first | exact Or.inl rfl | exact Or.inr rfl)) pgs_nil)))))
    (pss_cons (ps_if (pt_cmpR op_lt (pv 1) (pe_callB call_len_seq (by rfl) Tx.len PySem.boot_len (pa_cons (pv 2) pa_nil)) (nomark _)) (pss_one (ps_ret (pe_ix ix_list (pv 2) (pv 1) (fun _ _ => rfl)))) pss_nil)
    (pss_cons (ps_asg (pe_callB call_divmod (by rfl) Tx.divmod (by decide +kernel) (pa_cons (pe_op op_sub (pv 1) (pe_callB call_len_seq (by rfl) Tx.len PySem.boot_len (pa_cons (pv 2) pa_nil))) (pa_cons (pe_callB call_len_seq (by rfl) Tx.len PySem.boot_len (pa_cons (pv 3) pa_nil)) pa_nil))) (pg_tup rfl (pgs_cons (pg_name (i := 5) nd rfl (by first | exact Or.inl rfl | exact Or.inr rfl)) (pgs_cons (pg_name (i := 6) nd rfl (by first | exact Or.inl rfl | exact Or.inr rfl)) pgs_nil))))
    (pss_one (ps_ret (pe_op op_add (pe_ix ix_list (pv 3) (pv 6) (fun _ _ => rfl)) (pe_op op_mul (pv 4) (pv 5))))))))
abbrev s_first_numbers : Stmt := topS 20
abbrev n_first_numbers : List Str := ["ladder", "many", "early", "turn", "rise", "laps", "found", "lap", "number"]
abbrev p_first_numbers : List Str := ["ladder", "many"]
theorem sc_first_numbers : FnScope n_first_numbers p_first_numbers (defScope s_first_numbers) := ⟨rfl, rfl, rfl, by decide +kernel, rfl, by decide +kernel, by decide +kernel⟩
theorem d_first_numbers {P : Program} {w : World} {K : PySem.W.Frag} {mg : Str → Option Value} {base : Heap} (Tx : Txt mg) {f : Addr} {cdv : Value} {A : Around} {outer : List Env} {s : Shared} {H : Hp} {E : XK} (hr : Room 0 (A.deeper (envOfC "first_numbers" (defScope s_first_numbers) s.heap.objs.size f cdv))) :
    PSs (cxOf CX0 P w K mg base n_first_numbers "first_numbers" (defScope s_first_numbers) f cdv A outer s H E).nox (defBody s_first_numbers) (t_first_numbers K) :=
  have nd := sc_first_numbers.nd
  (pss_cons (ps_asg (pv 0) (pg_tup rfl (pgs_cons (pg_name (i := 2) nd rfl (by first | exact Or.inl rfl | exact Or.inr rfl)) (pgs_cons (pg_name (i := 3) nd rfl (by first | exact Or.inl rfl | exact Or.inr rfl)) (pgs_cons (pg_name (i := 4) nd rfl (by first | exact Or.inl rfl | exact Or.inr rfl)) pgs_nil)))))
    (pss_cons (ps_set (i := 5) nd rfl (by first | exact Or.inl rfl | exact Or.inr rfl) (pe_op op_add (pe_op op_fdiv (pe_callB (call_max2 rfl) (by rfl) Tx.max (by decide +kernel) (pa_cons pe_int (pa_cons (pe_op op_sub (pv 1) (pe_callB call_len_seq (by rfl) Tx.len PySem.boot_len (pa_cons (pv 2) pa_nil))) pa_nil))) (pe_callB call_len_seq (by rfl) Tx.len PySem.boot_len (pa_cons (pv 3) pa_nil))) pe_int))
    (pss_cons (ps_set (i := 6) nd rfl (by first | exact Or.inl rfl | exact Or.inr rfl) (pe_op op_cat (pv 2) (pe_lc2 (own := [("lap", 7), ("number", 8)]) (vs1 := [8]) (g := (gName 7)) (tt := tYes) (g1 := (gName 8)) (tt1 := tYes) rfl nd (pi_range1 (by rfl) Tx.range (pa_cons (pv 5) pa_nil)) (blkOk_by (own := [("lap", 7), ("number", 8)]) (N := n_first_numbers) (sc := defScope s_first_numbers) (by decide +kernel)) (by decide) (fun _ _ _ _ _ => (pg_name (i := 7) nd rfl (by first | exact Or.inl rfl | exact Or.inr rfl))) (fun _ _ _ _ _ => pts_nil) (fun _ _ _ _ _ => (pi_list (pv 3))) (fun _ _ _ _ _ => (pg_name (i := 8) nd rfl (by first | exact Or.inl rfl | exact Or.inr rfl))) (fun _ _ _ _ _ => pts_nil) (fun _ _ _ _ _ => (pe_op op_add (pv 8) (pe_op op_mul (pv 4) (pv 7)))))))
    (pss_one (ps_ret (pe_slice sl_list (pv 6) po_none (po_some (pv 1))))))))
abbrev s_comes_again : Stmt := topS 21
abbrev n_comes_again : List Str := ["turn", "rise", "length", "times", "later", "number", "more"]
abbrev p_comes_again : List Str := ["turn", "rise", "length"]
theorem sc_comes_again : FnScope n_comes_again p_comes_again (defScope s_comes_again) := ⟨rfl, rfl, rfl, by decide +kernel, rfl, by decide +kernel, by decide +kernel⟩
theorem d_comes_again {P : Program} {w : World} {K : PySem.W.Frag} {mg : Str → Option Value} {base : Heap} (Tx : Txt mg) {f : Addr} {cdv : Value} {A : Around} {outer : List Env} {s : Shared} {H : Hp} {E : XK} (hr : Room 0 (A.deeper (envOfC "comes_again" (defScope s_comes_again) s.heap.objs.size f cdv))) :
    PSs (cxOf CX0 P w K mg base n_comes_again "comes_again" (defScope s_comes_again) f cdv A outer s H E).nox (defBody s_comes_again) (t_comes_again K) :=
  have nd := sc_comes_again.nd
  (pss_cons (ps_set (i := 3) nd rfl (by first | exact Or.inl rfl | exact Or.inr rfl) (pe_op op_fdiv (pe_callB call_len_seq (by rfl) Tx.len PySem.boot_len (pa_cons (pv 0) pa_nil)) (pv 2)))
    (pss_cons (ps_if (pt_cmpR op_ne (pe_op op_mod (pv 1) (pv 3)) pe_int (nomark _)) (pss_one (ps_ret pe_bl)) pss_nil)
    (pss_cons (ps_set (i := 4) nd rfl (by first | exact Or.inl rfl | exact Or.inr rfl) (pe_op op_cat (pe_slice sl_list (pv 0) (po_some (pv 2)) po_none) (pe_lc (own := [("number", 5)]) (g := (gName 5)) (tt := tYes) rfl nd (pi_list (pe_slice sl_list (pv 0) po_none (po_some (pv 2)))) (blkOk_by (own := [("number", 5)]) (N := n_comes_again) (sc := defScope s_comes_again) (by decide +kernel)) (fun _ _ _ _ _ => (pg_name (i := 5) nd rfl (by first | exact Or.inl rfl | exact Or.inr rfl))) (fun _ _ _ _ _ => pts_nil) (fun _ _ _ _ _ => (pe_op op_add (pv 5) (pv 1))))))
    (pss_one (ps_ret (pe_callB (cr_all rfl) (by rfl) Tx.all (by decide +kernel) (pa_cons (pe_lc (own := [("number", 5), ("more", 6)]) (g := (gTup K 2 (gCons (gName 5) (gCons (gName 6) gNil)))) (tt := tYes) rfl nd (pi_zip (by rfl) Tx.zip (pa_cons (pv 0) (pa_cons (pv 4) pa_nil))) (blkOk_by (own := [("number", 5), ("more", 6)]) (N := n_comes_again) (sc := defScope s_comes_again) (by decide +kernel)) (fun _ _ _ _ _ => (pg_tup rfl (pgs_cons (pg_name (i := 5) nd rfl (by first | exact Or.inl rfl | exact Or.inr rfl)) (pgs_cons (pg_name (i := 6) nd rfl (by first | exact Or.inl rfl | exact Or.inr rfl)) pgs_nil)))) (fun _ _ _ _ _ => pts_nil) (fun _ _ _ _ _ => (pe_cmpR op_eq (pe_op op_add (pv 5) (pe_op op_fdiv (pv 1) (pv 3))) (pv 6) (nomark _)))) pa_nil)))))))
abbrev s_least_length : Stmt := topS 22
abbrev n_least_length : List Str := ["turn", "rise", "length", "part"]
abbrev p_least_length : List Str := ["turn", "rise"]
theorem sc_least_length : FnScope n_least_length p_least_length (defScope s_least_length) := ⟨rfl, rfl, rfl, by decide +kernel, rfl, by decide +kernel, by decide +kernel⟩
theorem d_least_length {P : Program} {w : World} {K : PySem.W.Frag} {mg : Str → Option Value} {base : Heap} (Tx : Txt mg) (c_comes_again : Callee P w K mg base 1 "comes_again" p_comes_again sp_comes_again) (c_prime_parts : Callee P w K mg base 1 "prime_parts" p_prime_parts sp_prime_parts) {f : Addr} {cdv : Value} {A : Around} {outer : List Env} {s : Shared} {H : Hp} {E : XK} (hr : Room 1 (A.deeper (envOfC "least_length" (defScope s_least_length) s.heap.objs.size f cdv))) :
    PSs (cxOf CX0 P w K mg base n_least_length "least_length" (defScope s_least_length) f cdv A outer s H E).nox (defBody s_least_length) (t_least_length K) :=
  have nd := sc_least_length.nd
  (pss_cons (ps_set (i := 2) nd rfl (by first | exact Or.inl rfl | exact Or.inr rfl) (pe_callB call_len_seq (by rfl) Tx.len PySem.boot_len (pa_cons (pv 0) pa_nil)))
    (pss_cons (ps_for PassesOwn.never rfl (pi_list (pe_callC c_prime_parts (hr.mono (by decide)) (by rfl) (pa_cons (pv 2) pa_nil))) (pg_name (i := 3) nd rfl (by first | exact Or.inl rfl | exact Or.inr rfl))
    (pss_one (ps_while PassesOwn.never (PW.pt (pw_and (pt_cmpR op_eq (pe_op op_mod (pv 2) (pv 3)) pe_int (nomark _)) (pw_and1 (pt_val (pe_callC c_comes_again (hr.mono (by decide)) (by rfl) (pa_cons (pv 0) (pa_cons (pv 1) (pa_cons (pe_op op_fdiv (pv 2) (pv 3)) pa_nil)))))))) (pss_one (ps_set (i := 2) nd rfl (by first | exact Or.inl rfl | exact Or.inr rfl) (pe_op op_fdiv (pv 2) (pv 3)))))))
    (pss_one (ps_ret (pv 2)))))
abbrev s_least_way : Stmt := topS 23
abbrev n_least_way : List Str := ["ladder", "early", "turn", "rise", "length", "gain", "numbers", "first"]
abbrev p_least_way : List Str := ["ladder"]
theorem sc_least_way : FnScope n_least_way p_least_way (defScope s_least_way) := ⟨rfl, rfl, rfl, by decide +kernel, rfl, by decide +kernel, by decide +kernel⟩
theorem d_least_way {P : Program} {w : World} {K : PySem.W.Frag} {mg : Str → Option Value} {base : Heap} (Tx : Txt mg) (c_least_length : Callee P w K mg base 2 "least_length" p_least_length sp_least_length) {f : Addr} {cdv : Value} {A : Around} {outer : List Env} {s : Shared} {H : Hp} {E : XK} (hr : Room 2 (A.deeper (envOfC "least_way" (defScope s_least_way) s.heap.objs.size f cdv))) :
    PSs (cxOf CX0 P w K mg base n_least_way "least_way" (defScope s_least_way) f cdv A outer s H E).nox (defBody s_least_way) (t_least_way K) :=
  have nd := sc_least_way.nd
  (pss_cons (ps_asg (pv 0) (pg_tup rfl (pgs_cons (pg_name (i := 1) nd rfl (by first | exact Or.inl rfl | exact Or.inr rfl)) (pgs_cons (pg_name (i := 2) nd rfl (by first | exact Or.inl rfl | exact Or.inr rfl)) (pgs_cons (pg_name (i := 3) nd rfl (by first | exact Or.inl rfl | exact Or.inr rfl)) pgs_nil)))))
    (pss_cons (ps_set (i := 4) nd rfl (by first | exact Or.inl rfl | exact Or.inr rfl) (pe_callC c_least_length (hr.mono (by decide)) (by rfl) (pa_cons (pv 2) (pa_cons (pv 3) pa_nil))))
    (pss_cons (ps_set (i := 5) nd rfl (by first | exact Or.inl rfl | exact Or.inr rfl) (pe_op op_fdiv (pe_op op_mul (pv 3) (pv 4)) (pe_callB call_len_seq (by rfl) Tx.len PySem.boot_len (pa_cons (pv 2) pa_nil))))
    (pss_cons (ps_par (i := 6) (j := 7) (by rfl) nd rfl rfl (by decide) rfl rfl (pa_cons (pe_op op_cat (pv 1) (pe_slice sl_list (pv 2) po_none (po_some (pv 4)))) (pa_cons (pe_callB call_len_seq (by rfl) Tx.len PySem.boot_len (pa_cons (pv 1) pa_nil)) pa_nil)) (by rfl))
    (pss_cons (ps_while PassesOwn.never (PW.pt (pw_and (pt_cmpR op_gt (pv 7) pe_int (nomark _)) (pw_and1 (pt_cmpR op_eq (pe_op op_add (pe_ix ix_list (pv 6) (pe_op op_sub (pv 7) pe_int) (fun _ _ => rfl)) (pv 5)) (pe_ix ix_list (pv 6) (pe_op op_add (pe_op op_sub (pv 7) pe_int) (pv 4)) (fun _ _ => rfl)) (nomark _))))) (pss_one (ps_aug (i := 7) nd rfl (by first | exact Or.inl rfl | exact Or.inr rfl) pe_int ip_sub)))
    (pss_one (ps_ret (pe_tup (pa_cons (pe_slice sl_list (pv 6) po_none (po_some (pv 7))) (pa_cons (pe_slice sl_list (pv 6) (po_some (pv 7)) (po_some (pe_op op_add (pv 7) (pv 4)))) (pa_cons (pv 5) pa_nil)))))))))))
abbrev s_least_row : Stmt := topS 24
abbrev n_least_row : List Str := ["row", "early", "turn"]
abbrev p_least_row : List Str := ["row"]
theorem sc_least_row : FnScope n_least_row p_least_row (defScope s_least_row) := ⟨rfl, rfl, rfl, by decide +kernel, rfl, by decide +kernel, by decide +kernel⟩
theorem d_least_row {P : Program} {w : World} {K : PySem.W.Frag} {mg : Str → Option Value} {base : Heap} (c_least_way : Callee P w K mg base 3 "least_way" p_least_way sp_least_way) {f : Addr} {cdv : Value} {A : Around} {outer : List Env} {s : Shared} {H : Hp} {E : XK} (hr : Room 3 (A.deeper (envOfC "least_row" (defScope s_least_row) s.heap.objs.size f cdv))) :
    PSs (cxOf CX0 P w K mg base n_least_row "least_row" (defScope s_least_row) f cdv A outer s H E).nox (defBody s_least_row) (t_least_row K) :=
  have nd := sc_least_row.nd
  (pss_cons (ps_asg (pv 0) (pg_tup rfl (pgs_cons (pg_name (i := 1) nd rfl (by first | exact Or.inl rfl | exact Or.inr rfl)) (pgs_cons (pg_name (i := 2) nd rfl (by first | exact Or.inl rfl | exact Or.inr rfl)) pgs_nil))))
    (pss_one (ps_ret (pe_slice sl_tup (pe_callC c_least_way (hr.mono (by decide)) (by rfl) (pa_cons (pe_tup (pa_cons (pv 1) (pa_cons (pv 2) (pa_cons pe_int pa_nil)))) pa_nil)) po_none (po_some pe_int)))))
abbrev s_first_of_row : Stmt := topS 25
abbrev n_first_of_row : List Str := ["row", "many"]
abbrev p_first_of_row : List Str := ["row", "many"]
theorem sc_first_of_row : FnScope n_first_of_row p_first_of_row (defScope s_first_of_row) := ⟨rfl, rfl, rfl, by decide +kernel, rfl, by decide +kernel, by decide +kernel⟩
theorem d_first_of_row {P : Program} {w : World} {K : PySem.W.Frag} {mg : Str → Option Value} {base : Heap} (c_first_numbers : Callee P w K mg base 1 "first_numbers" p_first_numbers sp_first_numbers) {f : Addr} {cdv : Value} {A : Around} {outer : List Env} {s : Shared} {H : Hp} {E : XK} (hr : Room 1 (A.deeper (envOfC "first_of_row" (defScope s_first_of_row) s.heap.objs.size f cdv))) :
    PSs (cxOf CX0 P w K mg base n_first_of_row "first_of_row" (defScope s_first_of_row) f cdv A outer s H E).nox (defBody s_first_of_row) (t_first_of_row K) :=
  have nd := sc_first_of_row.nd
  (pss_one (ps_ret (pe_callC c_first_numbers (hr.mono (by decide)) (by rfl) (pa_cons (pe_tup (pa_cons (pe_ix ix_tup (pv 0) pe_int (fun _ _ => rfl)) (pa_cons (pe_ix ix_tup (pv 0) pe_int (fun _ _ => rfl)) (pa_cons pe_int pa_nil)))) (pa_cons (pv 1) pa_nil)))))
abbrev s_set_row : Stmt := topS 26
abbrev n_set_row : List Str := ["told", "early", "first", "length", "found", "days", "places", "day", "place"]
abbrev p_set_row : List Str := ["told"]
theorem sc_set_row : FnScope n_set_row p_set_row (defScope s_set_row) := ⟨rfl, rfl, rfl, by decide +kernel, rfl, by decide +kernel, by decide +kernel⟩
theorem d_set_row {P : Program} {w : World} {K : PySem.W.Frag} {mg : Str → Option Value} {base : Heap} (Tx : Txt mg) {f : Addr} {cdv : Value} {A : Around} {outer : List Env} {s : Shared} {H : Hp} {E : XK} (hr : Room 0 (A.deeper (envOfC "set_row" (defScope s_set_row) s.heap.objs.size f cdv))) :
    PSs (cxOf CX0 P w K mg base n_set_row "set_row" (defScope s_set_row) f cdv A outer s H E).nox (defBody s_set_row) (t_set_row K) :=
  have nd := sc_set_row.nd
  (pss_cons (ps_asg (pv 0) (pg_tup rfl (pgs_cons (pg_name (i := 1) nd rfl (by first | exact Or.inl rfl | exact Or.inr rfl)) (pgs_cons (pg_name (i := 2) nd rfl (by first | exact Or.inl rfl | exact Or.inr rfl)) (pgs_cons (pg_name (i := 3) nd rfl (by first | exact Or.inl rfl | exact Or.inr rfl)) (pgs_cons (pg_name (i := 4) nd rfl (by first | exact Or.inl rfl | exact Or.inr rfl)) pgs_nil))))))
    (pss_cons (ps_asg (pe_tup (pa_cons (pe_dc (own := [("day", 7)]) (g := (gName 7)) (tt := tYes) rfl nd (pi_list (pv 1)) (blkOk_by (own := [("day", 7)]) (N := n_set_row) (sc := defScope s_set_row) (by decide +kernel)) (fun _ _ _ _ _ => (pg_name (i := 7) nd rfl (by first | exact Or.inl rfl | exact Or.inr rfl))) (fun _ _ _ _ _ => pts_nil) (fun _ _ _ _ _ => (pv 7)) (fun _ _ _ _ _ => pe_bl)) (pa_cons (pe_dc (own := [("place", 8)]) (g := (gName 8)) (tt := tYes) rfl nd (pi_list (pv 4)) (blkOk_by (own := [("place", 8)]) (N := n_set_row) (sc := defScope s_set_row) (by decide +kernel)) (fun _ _ _ _ _ => (pg_name (i := 8) nd rfl (by first | exact Or.inl rfl | exact Or.inr rfl))) (fun _ _ _ _ _ => pts_nil) (fun _ _ _ _ _ => (pv 8)) (fun _ _ _ _ _ => pe_bl)) pa_nil))) (pg_tup rfl (pgs_cons (pg_name (i := 5) nd rfl (by first | exact Or.inl rfl | exact Or.inr rfl)) (pgs_cons (pg_name (i := 6) nd rfl (by first | exact Or.inl rfl | exact Or.inr rfl)) pgs_nil))))
    (pss_one (ps_ret (pe_tup (pa_cons (pe_lc (own := [("day", 7)]) (g := (gName 7)) (tt := tYes) rfl nd (pi_range1 (by rfl) Tx.range (pa_cons (pv 2) pa_nil)) (blkOk_by (own := [("day", 7)]) (N := n_set_row) (sc := defScope s_set_row) (by decide +kernel)) (fun _ _ _ _ _ => (pg_name (i := 7) nd rfl (by first | exact Or.inl rfl | exact Or.inr rfl))) (fun _ _ _ _ _ => pts_nil) (fun _ _ _ _ _ => (pe_callTy call_int1 (by rfl) Tx.int (by decide +kernel) (pa_cons (pe_cmp (pc_din (hu_of hr) (pv 7) (pv 5)) rfl) pa_nil)))) (pa_cons (pe_lc (own := [("place", 8)]) (g := (gName 8)) (tt := tYes) rfl nd (pi_range1 (by rfl) Tx.range (pa_cons (pv 3) pa_nil)) (blkOk_by (own := [("place", 8)]) (N := n_set_row) (sc := defScope s_set_row) (by decide +kernel)) (fun _ _ _ _ _ => (pg_name (i := 8) nd rfl (by first | exact Or.inl rfl | exact Or.inr rfl))) (fun _ _ _ _ _ => pts_nil) (fun _ _ _ _ _ => (pe_callTy call_int1 (by rfl) Tx.int (by decide +kernel) (pa_cons (pe_cmp (pc_din (hu_of hr) (pv 8) (pv 6)) rfl) pa_nil)))) pa_nil)))))))
abbrev s_set_from : Stmt := topS 27
abbrev n_set_from : List Str := ["row", "begun", "again", "early", "day", "bit", "place"]
abbrev p_set_from : List Str := ["row"]
theorem sc_set_from : FnScope n_set_from p_set_from (defScope s_set_from) := ⟨rfl, rfl, rfl, by decide +kernel, rfl, by decide +kernel, by decide +kernel⟩
theorem d_set_from {P : Program} {w : World} {K : PySem.W.Frag} {mg : Str → Option Value} {base : Heap} (Tx : Txt mg) (c_least_row : Callee P w K mg base 4 "least_row" p_least_row sp_least_row) {f : Addr} {cdv : Value} {A : Around} {outer : List Env} {s : Shared} {H : Hp} {E : XK} (hr : Room 4 (A.deeper (envOfC "set_from" (defScope s_set_from) s.heap.objs.size f cdv))) :
    PSs (cxOf CX0 P w K mg base n_set_from "set_from" (defScope s_set_from) f cdv A outer s H E).nox (defBody s_set_from) (t_set_from K) :=
  have nd := sc_set_from.nd
  (pss_cons (ps_asg (pe_callC c_least_row (hr.mono (by decide)) (by rfl) (pa_cons (pv 0) pa_nil)) (pg_tup rfl (pgs_cons (pg_name (i := 1) nd rfl (by first | exact Or.inl rfl | exact Or.inr rfl)) (pgs_cons (pg_name (i := 2) nd rfl (by first | exact Or.inl rfl | exact Or.inr rfl)) pgs_nil))))
    (pss_cons (ps_setLc (i := 3) (own := [("day", 4), ("bit", 5)]) (g := (gTup K 2 (gCons (gName 4) (gCons (gName 5) gNil)))) (tt := (tTest (tOp rEq (tVar 5) (tC (.int 1))))) rfl nd rfl rfl (sw_true rfl rfl rfl (by decide +kernel)) (pi_enum (by rfl) Tx.enumerate (pa_cons (pv 1) pa_nil)) (blkOk_by (own := [("day", 4), ("bit", 5)]) (N := n_set_from) (sc := defScope s_set_from) (by decide +kernel)) (fun _ _ _ _ _ => (pg_tup rfl (pgs_cons (pg_name (i := 4) nd rfl (by first | exact Or.inl rfl | exact Or.inr rfl)) (pgs_cons (pg_name (i := 5) nd rfl (by first | exact Or.inl rfl | exact Or.inr rfl)) pgs_nil)))) (fun _ _ _ _ _ => (pts_one (pt_cmpR op_eq (pv 5) pe_int (nomark _)))) (fun _ _ _ _ _ => (pv 4)))
    (pss_one (ps_ret (pe_tup (pa_cons (pv 3) (pa_cons (pe_callB call_len_seq (by rfl) Tx.len PySem.boot_len (pa_cons (pv 1) pa_nil)) (pa_cons (pe_callB call_len_seq (by rfl) Tx.len PySem.boot_len (pa_cons (pv 2) pa_nil)) (pa_cons (pe_lc (own := [("place", 6), ("bit", 5)]) (g := (gTup K 2 (gCons (gName 6) (gCons (gName 5) gNil)))) (tt := (tTest (tOp rEq (tVar 5) (tC (.int 1))))) rfl nd (pi_enum (by rfl) Tx.enumerate (pa_cons (pv 2) pa_nil)) (blkOk_by (own := [("place", 6), ("bit", 5)]) (N := n_set_from) (sc := defScope s_set_from) (by decide +kernel)) (fun _ _ _ _ _ => (pg_tup rfl (pgs_cons (pg_name (i := 6) nd rfl (by first | exact Or.inl rfl | exact Or.inr rfl)) (pgs_cons (pg_name (i := 5) nd rfl (by first | exact Or.inl rfl | exact Or.inr rfl)) pgs_nil)))) (fun _ _ _ _ _ => (pts_one (pt_cmpR op_eq (pv 5) pe_int (nomark _)))) (fun _ _ _ _ _ => (pv 6))) pa_nil)))))))))
abbrev s_set_of_days : Stmt := topS 28
abbrev n_set_of_days : List Str := ["days", "early"]
abbrev p_set_of_days : List Str := ["days"]
theorem sc_set_of_days : FnScope n_set_of_days p_set_of_days (defScope s_set_of_days) := ⟨rfl, rfl, rfl, by decide +kernel, rfl, by decide +kernel, by decide +kernel⟩
theorem d_set_of_days {P : Program} {w : World} {K : PySem.W.Frag} {mg : Str → Option Value} {base : Heap} (Tx : Txt mg) {f : Addr} {cdv : Value} {A : Around} {outer : List Env} {s : Shared} {H : Hp} {E : XK} (hr : Room 0 (A.deeper (envOfC "set_of_days" (defScope s_set_of_days) s.heap.objs.size f cdv))) :
    PSs (cxOf CX0 P w K mg base n_set_of_days "set_of_days" (defScope s_set_of_days) f cdv A outer s H E).nox (defBody s_set_of_days) (t_set_of_days K w) :=
  have nd := sc_set_of_days.nd
  (pss_cons (ps_set (i := 1) nd rfl (by first | exact Or.inl rfl | exact Or.inr rfl) (pe_callB (cr_sortedSet rfl) (by rfl) Tx.sorted (by decide +kernel) (pa_cons (pe_callTy (cr_setI rfl) (by rfl) Tx.set (by decide +kernel) (pa_cons (pv 0) pa_nil)) pa_nil)))
    (pss_one (ps_ret (pe_tup (pa_cons (pv 1) (pa_cons (pe_ifExp (pt_cmpR (op_neD hr.units) (pv 1) (pe_lst pa_nil) (nomark _)) (pe_op op_add (pe_ix ix_list (pv 1) (pe_un un_neg pe_int) (fun _ _ => rfl)) pe_int) pe_int) (pa_cons pe_int (pa_cons (pe_lst pa_nil) pa_nil))))))))
abbrev s_next_of : Stmt := topS 29
abbrev n_next_of : List Str := ["told", "day", "early", "first", "length", "found", "late", "one", "times", "place", "rest"]
abbrev p_next_of : List Str := ["told", "day"]
theorem sc_next_of : FnScope n_next_of p_next_of (defScope s_next_of) := ⟨rfl, rfl, rfl, by decide +kernel, rfl, by decide +kernel, by decide +kernel⟩
theorem d_next_of {P : Program} {w : World} {K : PySem.W.Frag} {mg : Str → Option Value} {base : Heap} (Tx : Txt mg) {f : Addr} {cdv : Value} {A : Around} {outer : List Env} {s : Shared} {H : Hp} {E : XK} (hr : Room 0 (A.deeper (envOfC "next_of" (defScope s_next_of) s.heap.objs.size f cdv))) :
    PSs (cxOf CX0 P w K mg base n_next_of "next_of" (defScope s_next_of) f cdv A outer s H E).nox (defBody s_next_of) (t_next_of K) :=
  have nd := sc_next_of.nd
  (pss_cons (ps_asg (pv 0) (pg_tup rfl (pgs_cons (pg_name (i := 2) nd rfl (by first | exact Or.inl rfl | exact Or.inr rfl)) (pgs_cons (pg_name (i := 3) nd rfl (by first | exact Or.inl rfl | exact Or.inr rfl)) (pgs_cons (pg_name (i := 4) nd rfl (by first | exact Or.inl rfl | exact Or.inr rfl)) (pgs_cons (pg_name (i := 5) nd rfl (by first | exact Or.inl rfl | exact Or.inr rfl)) pgs_nil))))))
    (pss_cons (ps_setLc (i := 6) (own := [("one", 7)]) (g := (gName 7)) (tt := (tTest (tOp rGe (tVar 7) (tVar 1)))) rfl nd rfl rfl (sw_true rfl rfl rfl (by decide +kernel)) (pi_list (pv 2)) (blkOk_by (own := [("one", 7)]) (N := n_next_of) (sc := defScope s_next_of) (by decide +kernel)) (fun _ _ _ _ _ => (pg_name (i := 7) nd rfl (by first | exact Or.inl rfl | exact Or.inr rfl))) (fun _ _ _ _ _ => (pts_one (pt_cmpR op_ge (pv 7) (pv 1) (nomark _)))) (fun _ _ _ _ _ => (pv 7)))
    (pss_cons (ps_if (PW.pt (pw_or (pt_cmpR (op_neD hr.units) (pv 6) (pe_lst pa_nil) (nomark _)) (pw_or1 (pt_cmpR (op_eqD hr.units) (pv 5) (pe_lst pa_nil) (nomark _))))) (pss_one (ps_ret (pe_ifExp (pt_cmpR (op_neD hr.units) (pv 6) (pe_lst pa_nil) (nomark _)) (pe_ix ix_list (pv 6) pe_int (fun _ _ => rfl)) pe_non))) pss_nil)
    (pss_cons (ps_asg (pe_callB call_divmod (by rfl) Tx.divmod (by decide +kernel) (pa_cons (pe_op op_sub (pe_callB (call_max2 rfl) (by rfl) Tx.max (by decide +kernel) (pa_cons (pv 1) (pa_cons (pv 3) pa_nil))) (pv 3)) (pa_cons (pv 4) pa_nil))) (pg_tup rfl (pgs_cons (pg_name (i := 8) nd rfl (by first | exact Or.inl rfl | exact Or.inr rfl)) (pgs_cons (pg_name (i := 9) nd rfl (by first | exact Or.inl rfl | exact Or.inr rfl)) pgs_nil))))
    (pss_cons (ps_setLc (i := 10) (own := [("one", 7)]) (g := (gName 7)) (tt := (tTest (tOp rGe (tVar 7) (tVar 9)))) rfl nd rfl rfl (sw_true rfl rfl rfl (by decide +kernel)) (pi_list (pv 5)) (blkOk_by (own := [("one", 7)]) (N := n_next_of) (sc := defScope s_next_of) (by decide +kernel)) (fun _ _ _ _ _ => (pg_name (i := 7) nd rfl (by first | exact Or.inl rfl | exact Or.inr rfl))) (fun _ _ _ _ _ => (pts_one (pt_cmpR op_ge (pv 7) (pv 9) (nomark _)))) (fun _ _ _ _ _ => (pv 7)))
    (pss_cons (ps_if (pt_cmpR (op_neD hr.units) (pv 10) (pe_lst pa_nil) (nomark _)) (pss_one (ps_ret (pe_op op_add (pe_op op_add (pv 3) (pe_op op_mul (pv 4) (pv 8))) (pe_ix ix_list (pv 10) pe_int (fun _ _ => rfl))))) pss_nil)
    (pss_one (ps_ret (pe_op op_add (pe_op op_add (pv 3) (pe_op op_mul (pv 4) (pe_op op_add (pv 8) pe_int))) (pe_ix ix_list (pv 5) pe_int (fun _ _ => rfl)))))))))))
abbrev s_counts_of : Stmt := topS 30
abbrev n_counts_of : List Str := ["told", "begun", "again", "numbers", "many", "bit"]
abbrev p_counts_of : List Str := ["told"]
theorem sc_counts_of : FnScope n_counts_of p_counts_of (defScope s_counts_of) := ⟨rfl, rfl, rfl, by decide +kernel, rfl, by decide +kernel, by decide +kernel⟩
theorem d_counts_of {P : Program} {w : World} {K : PySem.W.Frag} {mg : Str → Option Value} {base : Heap} (Tx : Txt mg) (c_least_way : Callee P w K mg base 3 "least_way" p_least_way sp_least_way) (c_set_row : Callee P w K mg base 1 "set_row" p_set_row sp_set_row) {f : Addr} {cdv : Value} {A : Around} {outer : List Env} {s : Shared} {H : Hp} {E : XK} (hr : Room 3 (A.deeper (envOfC "counts_of" (defScope s_counts_of) s.heap.objs.size f cdv))) :
    PSs (cxOf CX0 P w K mg base n_counts_of "counts_of" (defScope s_counts_of) f cdv A outer s H E).nox (defBody s_counts_of) (t_counts_of K) :=
  have nd := sc_counts_of.nd
  (pss_cons (ps_asg (pe_callC c_set_row (hr.mono (by decide)) (by rfl) (pa_cons (pv 0) pa_nil)) (pg_tup rfl (pgs_cons (pg_name (i := 1) nd rfl (by first | exact Or.inl rfl | exact Or.inr rfl)) (pgs_cons (pg_name (i := 2) nd rfl (by first | exact Or.inl rfl | exact Or.inr rfl)) pgs_nil))))
    (pss_cons (ps_set (i := 3) nd rfl (by first | exact Or.inl rfl | exact Or.inr rfl) (pe_lst pa_nil))
    (pss_cons (ps_set (i := 4) nd rfl (by first | exact Or.inl rfl | exact Or.inr rfl) pe_int)
    (pss_cons (ps_for PassesOwn.never rfl (pi_list (pe_op op_cat (pv 1) (pv 2))) (pg_name (i := 5) nd rfl (by first | exact Or.inl rfl | exact Or.inr rfl))
    (pss_cons (ps_expr (pe_bm PySem.F.plainAttrs_list PySem.F.slot_list_append PySem.F.type_list_append mt_append (pv 3) (pa_cons (pv 4) pa_nil)))
    (pss_one (ps_set (i := 4) nd rfl (by first | exact Or.inl rfl | exact Or.inr rfl) (pe_op op_add (pv 4) (pv 5))))))
    (pss_one (ps_ret (pe_callC c_least_way (hr.mono (by decide)) (by rfl) (pa_cons (pe_tup (pa_cons (pe_slice sl_list (pv 3) po_none (po_some (pe_callB call_len_seq (by rfl) Tx.len PySem.boot_len (pa_cons (pv 1) pa_nil)))) (pa_cons (pe_slice sl_list (pv 3) (po_some (pe_callB call_len_seq (by rfl) Tx.len PySem.boot_len (pa_cons (pv 1) pa_nil))) po_none) (pa_cons (pe_callB (cr_sum rfl) (by rfl) Tx.sum (by decide +kernel) (pa_cons (pv 2) pa_nil)) pa_nil)))) pa_nil))))))))
abbrev s_first_at_least : Stmt := topS 31
abbrev n_first_at_least : List Str := ["ladder", "number", "early", "turn", "rise", "day", "tells", "times", "place"]
abbrev p_first_at_least : List Str := ["ladder", "number"]
theorem sc_first_at_least : FnScope n_first_at_least p_first_at_least (defScope s_first_at_least) := ⟨rfl, rfl, rfl, by decide +kernel, rfl, by decide +kernel, by decide +kernel⟩
theorem d_first_at_least {P : Program} {w : World} {K : PySem.W.Frag} {mg : Str → Option Value} {base : Heap} (Tx : Txt mg) {f : Addr} {cdv : Value} {A : Around} {outer : List Env} {s : Shared} {H : Hp} {E : XK} (hr : Room 0 (A.deeper (envOfC "first_at_least" (defScope s_first_at_least) s.heap.objs.size f cdv))) :
    PSs (cxOf CX0 P w K mg base n_first_at_least "first_at_least" (defScope s_first_at_least) f cdv A outer s H E).nox (defBody s_first_at_least) (t_first_at_least K) :=
  have nd := sc_first_at_least.nd
  (pss_cons (ps_asg (pv 0) (pg_tup rfl (pgs_cons (pg_name (i := 2) nd rfl (by first | exact Or.inl rfl | exact Or.inr rfl)) (pgs_cons (pg_name (i := 3) nd rfl (by first | exact Or.inl rfl | exact Or.inr rfl)) (pgs_cons (pg_name (i := 4) nd rfl (by first | exact Or.inl rfl | exact Or.inr rfl)) pgs_nil)))))
    (pss_cons (ps_for PassesOwn.never rfl (pi_enum (by rfl) Tx.enumerate (pa_cons (pv 2) pa_nil)) (pg_tup rfl (pgs_cons (pg_name (i := 5) nd rfl (by first | exact Or.inl rfl | exact Or.inr rfl)) (pgs_cons (pg_name (i := 6) nd rfl (by first | exact Or.inl rfl | exact Or.inr rfl)) pgs_nil)))
    (pss_one (ps_if (pt_cmpR op_ge (pv 6) (pv 1) (nomark _)) (pss_one (ps_ret (pv 5))) pss_nil)))
    (pss_cons (ps_set (i := 7) nd rfl (by first | exact Or.inl rfl | exact Or.inr rfl) (pe_callB (call_max2 rfl) (by rfl) Tx.max (by decide +kernel) (pa_cons pe_int (pa_cons (pe_op op_fdiv (pe_op op_sub (pe_op op_add (pe_op op_sub (pv 1) (pe_ix ix_list (pv 3) (pe_un un_neg pe_int) (fun _ _ => rfl))) (pv 4)) pe_int) (pv 4)) pa_nil))))
    (pss_cons (ps_set (i := 8) nd rfl (by first | exact Or.inl rfl | exact Or.inr rfl) (pe_ix ix_list (pe_lc (own := [("place", 8), ("tells", 6)]) (g := (gTup K 2 (gCons (gName 8) (gCons (gName 6) gNil)))) (tt := (tTest (tOp rGe (tOp rAdd (tVar 6) (tOp rMul (tVar 4) (tVar 7))) (tVar 1)))) rfl nd (pi_enum (by rfl) Tx.enumerate (pa_cons (pv 3) pa_nil)) (blkOk_by (own := [("place", 8), ("tells", 6)]) (N := n_first_at_least) (sc := defScope s_first_at_least) (by decide +kernel)) (fun _ _ _ _ _ => (pg_tup rfl (pgs_cons (pg_name (i := 8) nd rfl (by first | exact Or.inl rfl | exact Or.inr rfl)) (pgs_cons (pg_name (i := 6) nd rfl (by first | exact Or.inl rfl | exact Or.inr rfl)) pgs_nil)))) (fun _ _ _ _ _ => (pts_one (pt_cmpR op_ge (pe_op op_add (pv 6) (pe_op op_mul (pv 4) (pv 7))) (pv 1) (nomark _)))) (fun _ _ _ _ _ => (pv 8))) pe_int (fun _ _ => rfl)))
    (pss_one (ps_ret (pe_op op_add (pe_op op_add (pe_callB call_len_seq (by rfl) Tx.len PySem.boot_len (pa_cons (pv 2) pa_nil)) (pe_op op_mul (pe_callB call_len_seq (by rfl) Tx.len PySem.boot_len (pa_cons (pv 3) pa_nil)) (pv 7))) (pv 8))))))))
abbrev s_joined_ladders : Stmt := topS 32
abbrev n_joined_ladders : List Str := ["one", "other", "early", "turn", "rise", "begun", "again", "more", "first", "length", "gain", "times", "numbers", "number"]
abbrev p_joined_ladders : List Str := ["one", "other"]
theorem sc_joined_ladders : FnScope n_joined_ladders p_joined_ladders (defScope s_joined_ladders) := ⟨rfl, rfl, rfl, by decide +kernel, rfl, by decide +kernel, by decide +kernel⟩
theorem d_joined_ladders {P : Program} {w : World} {K : PySem.W.Frag} {mg : Str → Option Value} {base : Heap} (Tx : Txt mg) (c_common_divisor : Callee P w K mg base 1 "common_divisor" p_common_divisor sp_common_divisor) (c_first_at_least : Callee P w K mg base 1 "first_at_least" p_first_at_least sp_first_at_least) (c_first_numbers : Callee P w K mg base 1 "first_numbers" p_first_numbers sp_first_numbers) (c_least_way : Callee P w K mg base 3 "least_way" p_least_way sp_least_way) (c_number_at : Callee P w K mg base 1 "number_at" p_number_at sp_number_at) {f : Addr} {cdv : Value} {A : Around} {outer : List Env} {s : Shared} {H : Hp} {E : XK} (hr : Room 3 (A.deeper (envOfC "joined_ladders" (defScope s_joined_ladders) s.heap.objs.size f cdv))) :
    PSs (cxOf CX0 P w K mg base n_joined_ladders "joined_ladders" (defScope s_joined_ladders) f cdv A outer s H E).nox (defBody s_joined_ladders) (t_joined_ladders K) :=
  have nd := sc_joined_ladders.nd
  (pss_cons (ps_asg (pv 0) (pg_tup rfl (pgs_cons (pg_name (i := 2) nd rfl (by first | exact Or.inl rfl | exact Or.inr rfl)) (pgs_cons (pg_name (i := 3) nd rfl (by first | exact Or.inl rfl | exact Or.inr rfl)) (pgs_cons (pg_name (i := 4) nd rfl (by first | exact Or.inl rfl | exact Or.inr rfl)) pgs_nil)))))
    (pss_cons (ps_asg (pv 1) (pg_tup rfl (pgs_cons (pg_name (i := 5) nd rfl (by first | exact Or.inl rfl | exact Or.inr rfl)) (pgs_cons (pg_name (i := 6) nd rfl (by first | exact Or.inl rfl | exact Or.inr rfl)) (pgs_cons (pg_name (i := 7) nd rfl (by first | exact Or.inl rfl | exact Or.inr rfl)) pgs_nil)))))
    (pss_cons (ps_par3 (i := 8) (j := 9) (l := 10) (by rfl) nd rfl rfl rfl (by decide) (by decide) (by decide) rfl rfl rfl (pa_cons (pe_callB call_len_seq (by rfl) Tx.len PySem.boot_len (pa_cons (pv 2) pa_nil)) (pa_cons (pe_callB call_len_seq (by rfl) Tx.len PySem.boot_len (pa_cons (pv 3) pa_nil)) (pa_cons pe_int pa_nil))) (by rfl))
    (pss_cons (ps_if (pt_cmpR op_gt (pv 4) pe_int (nomark _)) (pss_cons (ps_set (i := 8) nd rfl (by first | exact Or.inl rfl | exact Or.inr rfl) (pe_callB (call_max2 rfl) (by rfl) Tx.max (by decide +kernel) (pa_cons (pv 8) (pa_cons (pe_callC c_first_at_least (hr.mono (by decide)) (by rfl) (pa_cons (pv 0) (pa_cons (pe_callB call_len_seq (by rfl) Tx.len PySem.boot_len (pa_cons (pv 5) pa_nil)) pa_nil))) pa_nil))))
    (pss_cons (ps_set (i := 11) nd rfl (by first | exact Or.inl rfl | exact Or.inr rfl) (pe_op op_fdiv (pe_callB call_len_seq (by rfl) Tx.len PySem.boot_len (pa_cons (pv 6) pa_nil)) (pe_callC c_common_divisor (hr.mono (by decide)) (by rfl) (pa_cons (pv 4) (pa_cons (pe_callB call_len_seq (by rfl) Tx.len PySem.boot_len (pa_cons (pv 6) pa_nil)) pa_nil)))))
    (pss_one (ps_par (i := 9) (j := 10) (by rfl) nd rfl rfl (by decide) rfl rfl (pa_cons (pe_op op_mul (pv 9) (pv 11)) (pa_cons (pe_op op_mul (pe_op op_fdiv (pe_op op_mul (pv 4) (pv 11)) (pe_callB call_len_seq (by rfl) Tx.len PySem.boot_len (pa_cons (pv 6) pa_nil))) (pv 7)) pa_nil)) (by rfl))))) pss_nil)
    (pss_cons (ps_setLc (i := 12) (own := [("number", 13)]) (g := (gName 13)) (tt := tYes) rfl nd rfl rfl (sw_true rfl rfl rfl (by decide +kernel)) (pi_list (pe_callC c_first_numbers (hr.mono (by decide)) (by rfl) (pa_cons (pv 0) (pa_cons (pe_op op_add (pv 8) (pv 9)) pa_nil)))) (blkOk_by (own := [("number", 13)]) (N := n_joined_ladders) (sc := defScope s_joined_ladders) (by decide +kernel)) (fun _ _ _ _ _ => (pg_name (i := 13) nd rfl (by first | exact Or.inl rfl | exact Or.inr rfl))) (fun _ _ _ _ _ => pts_nil) (fun _ _ _ _ _ => (pe_callC c_number_at (hr.mono (by decide)) (by rfl) (pa_cons (pv 1) (pa_cons (pv 13) pa_nil)))))
    (pss_one (ps_ret (pe_callC c_least_way (hr.mono (by decide)) (by rfl) (pa_cons (pe_tup (pa_cons (pe_slice sl_list (pv 12) po_none (po_some (pv 8))) (pa_cons (pe_slice sl_list (pv 12) (po_some (pv 8)) po_none) (pa_cons (pv 10) pa_nil)))) pa_nil)))))))))
abbrev s_common_way : Stmt := topS 33
abbrev n_common_way : List Str := ["one", "other"]
abbrev p_common_way : List Str := ["one", "other"]
theorem sc_common_way : FnScope n_common_way p_common_way (defScope s_common_way) := ⟨rfl, rfl, rfl, by decide +kernel, rfl, by decide +kernel, by decide +kernel⟩
theorem d_common_way {P : Program} {w : World} {K : PySem.W.Frag} {mg : Str → Option Value} {base : Heap} (Tx : Txt mg) (c_common_multiple : Callee P w K mg base 2 "common_multiple" p_common_multiple sp_common_multiple) {f : Addr} {cdv : Value} {A : Around} {outer : List Env} {s : Shared} {H : Hp} {E : XK} (hr : Room 2 (A.deeper (envOfC "common_way" (defScope s_common_way) s.heap.objs.size f cdv))) :
    PSs (cxOf CX0 P w K mg base n_common_way "common_way" (defScope s_common_way) f cdv A outer s H E).nox (defBody s_common_way) (t_common_way K) :=
  have nd := sc_common_way.nd
  (pss_one (ps_ret (pe_tup (pa_cons (pe_callB (call_max2 rfl) (by rfl) Tx.max (by decide +kernel) (pa_cons (pe_callB call_len_seq (by rfl) Tx.len PySem.boot_len (pa_cons (pe_ix ix_tup (pv 0) pe_int (fun _ _ => rfl)) pa_nil)) (pa_cons (pe_callB call_len_seq (by rfl) Tx.len PySem.boot_len (pa_cons (pe_ix ix_tup (pv 1) pe_int (fun _ _ => rfl)) pa_nil)) pa_nil))) (pa_cons (pe_callC c_common_multiple (hr.mono (by decide)) (by rfl) (pa_cons (pe_callB call_len_seq (by rfl) Tx.len PySem.boot_len (pa_cons (pe_ix ix_tup (pv 0) pe_int (fun _ _ => rfl)) pa_nil)) (pa_cons (pe_callB call_len_seq (by rfl) Tx.len PySem.boot_len (pa_cons (pe_ix ix_tup (pv 1) pe_int (fun _ _ => rfl)) pa_nil)) pa_nil))) pa_nil)))))
abbrev s_risen : Stmt := topS 34
abbrev n_risen : List Str := ["ladder", "length"]
abbrev p_risen : List Str := ["ladder", "length"]
theorem sc_risen : FnScope n_risen p_risen (defScope s_risen) := ⟨rfl, rfl, rfl, by decide +kernel, rfl, by decide +kernel, by decide +kernel⟩
theorem d_risen {P : Program} {w : World} {K : PySem.W.Frag} {mg : Str → Option Value} {base : Heap} (Tx : Txt mg) {f : Addr} {cdv : Value} {A : Around} {outer : List Env} {s : Shared} {H : Hp} {E : XK} (hr : Room 0 (A.deeper (envOfC "risen" (defScope s_risen) s.heap.objs.size f cdv))) :
    PSs (cxOf CX0 P w K mg base n_risen "risen" (defScope s_risen) f cdv A outer s H E).nox (defBody s_risen) (t_risen K) :=
  have nd := sc_risen.nd
  (pss_one (ps_ret (pe_op op_mul (pe_ix ix_tup (pv 0) pe_int (fun _ _ => rfl)) (pe_op op_fdiv (pv 1) (pe_callB call_len_seq (by rfl) Tx.len PySem.boot_len (pa_cons (pe_ix ix_tup (pv 0) pe_int (fun _ _ => rfl)) pa_nil))))))
abbrev s_added_ladders : Stmt := topS 35
abbrev n_added_ladders : List Str := ["one", "other", "first", "length", "many", "numbers", "number", "more"]
abbrev p_added_ladders : List Str := ["one", "other"]
theorem sc_added_ladders : FnScope n_added_ladders p_added_ladders (defScope s_added_ladders) := ⟨rfl, rfl, rfl, by decide +kernel, rfl, by decide +kernel, by decide +kernel⟩
theorem d_added_ladders {P : Program} {w : World} {K : PySem.W.Frag} {mg : Str → Option Value} {base : Heap} (Tx : Txt mg) (c_common_way : Callee P w K mg base 3 "common_way" p_common_way sp_common_way) (c_first_numbers : Callee P w K mg base 1 "first_numbers" p_first_numbers sp_first_numbers) (c_least_way : Callee P w K mg base 3 "least_way" p_least_way sp_least_way) (c_risen : Callee P w K mg base 1 "risen" p_risen sp_risen) {f : Addr} {cdv : Value} {A : Around} {outer : List Env} {s : Shared} {H : Hp} {E : XK} (hr : Room 3 (A.deeper (envOfC "added_ladders" (defScope s_added_ladders) s.heap.objs.size f cdv))) :
    PSs (cxOf CX0 P w K mg base n_added_ladders "added_ladders" (defScope s_added_ladders) f cdv A outer s H E).nox (defBody s_added_ladders) (t_added_ladders K) :=
  have nd := sc_added_ladders.nd
  (pss_cons (ps_asg (pe_callC c_common_way (hr.mono (by decide)) (by rfl) (pa_cons (pv 0) (pa_cons (pv 1) pa_nil))) (pg_tup rfl (pgs_cons (pg_name (i := 2) nd rfl (by first | exact Or.inl rfl | exact Or.inr rfl)) (pgs_cons (pg_name (i := 3) nd rfl (by first | exact Or.inl rfl | exact Or.inr rfl)) pgs_nil))))
    (pss_cons (ps_set (i := 4) nd rfl (by first | exact Or.inl rfl | exact Or.inr rfl) (pe_op op_add (pv 2) (pv 3)))
    (pss_cons (ps_setLc (i := 5) (own := [("number", 6), ("more", 7)]) (g := (gTup K 2 (gCons (gName 6) (gCons (gName 7) gNil)))) (tt := tYes) rfl nd rfl rfl (sw_true rfl rfl rfl (by decide +kernel)) (pi_zip (by rfl) Tx.zip (pa_cons (pe_callC c_first_numbers (hr.mono (by decide)) (by rfl) (pa_cons (pv 0) (pa_cons (pv 4) pa_nil))) (pa_cons (pe_callC c_first_numbers (hr.mono (by decide)) (by rfl) (pa_cons (pv 1) (pa_cons (pv 4) pa_nil))) pa_nil))) (blkOk_by (own := [("number", 6), ("more", 7)]) (N := n_added_ladders) (sc := defScope s_added_ladders) (by decide +kernel)) (fun _ _ _ _ _ => (pg_tup rfl (pgs_cons (pg_name (i := 6) nd rfl (by first | exact Or.inl rfl | exact Or.inr rfl)) (pgs_cons (pg_name (i := 7) nd rfl (by first | exact Or.inl rfl | exact Or.inr rfl)) pgs_nil)))) (fun _ _ _ _ _ => pts_nil) (fun _ _ _ _ _ => (pe_op op_add (pv 6) (pv 7))))
    (pss_one (ps_ret (pe_callC c_least_way (hr.mono (by decide)) (by rfl) (pa_cons (pe_tup (pa_cons (pe_slice sl_list (pv 5) po_none (po_some (pv 2))) (pa_cons (pe_slice sl_list (pv 5) (po_some (pv 2)) po_none) (pa_cons (pe_op op_add (pe_callC c_risen (hr.mono (by decide)) (by rfl) (pa_cons (pv 0) (pa_cons (pv 3) pa_nil))) (pe_callC c_risen (hr.mono (by decide)) (by rfl) (pa_cons (pv 1) (pa_cons (pv 3) pa_nil)))) pa_nil)))) pa_nil)))))))
abbrev s_unlike_day : Stmt := topS 36
abbrev n_unlike_day : List Str := ["one", "other", "many", "day", "number", "more"]
abbrev p_unlike_day : List Str := ["one", "other"]
theorem sc_unlike_day : FnScope n_unlike_day p_unlike_day (defScope s_unlike_day) := ⟨rfl, rfl, rfl, by decide +kernel, rfl, by decide +kernel, by decide +kernel⟩
theorem d_unlike_day {P : Program} {w : World} {K : PySem.W.Frag} {mg : Str → Option Value} {base : Heap} (Tx : Txt mg) (c_first_numbers : Callee P w K mg base 1 "first_numbers" p_first_numbers sp_first_numbers) {f : Addr} {cdv : Value} {A : Around} {outer : List Env} {s : Shared} {H : Hp} {E : XK} (hr : Room 1 (A.deeper (envOfC "unlike_day" (defScope s_unlike_day) s.heap.objs.size f cdv))) :
    PSs (cxOf CX0 P w K mg base n_unlike_day "unlike_day" (defScope s_unlike_day) f cdv A outer s H E).nox (defBody s_unlike_day) (t_unlike_day K) :=
  have nd := sc_unlike_day.nd
  (pss_cons (ps_set (i := 2) nd rfl (by first | exact Or.inl rfl | exact Or.inr rfl) (pe_op op_add (pe_op op_add (pe_op op_add (pe_callB (call_max2 rfl) (by rfl) Tx.max (by decide +kernel) (pa_cons (pe_callB call_len_seq (by rfl) Tx.len PySem.boot_len (pa_cons (pe_ix ix_tup (pv 0) pe_int (fun _ _ => rfl)) pa_nil)) (pa_cons (pe_callB call_len_seq (by rfl) Tx.len PySem.boot_len (pa_cons (pe_ix ix_tup (pv 1) pe_int (fun _ _ => rfl)) pa_nil)) pa_nil))) (pe_callB call_len_seq (by rfl) Tx.len PySem.boot_len (pa_cons (pe_ix ix_tup (pv 0) pe_int (fun _ _ => rfl)) pa_nil))) (pe_callB call_len_seq (by rfl) Tx.len PySem.boot_len (pa_cons (pe_ix ix_tup (pv 1) pe_int (fun _ _ => rfl)) pa_nil))) pe_int))
    (pss_cons (ps_for PassesOwn.never rfl (pi_enZ (by rfl) Tx.enumerate (by rfl) Tx.zip (pa_cons (pe_callC c_first_numbers (hr.mono (by decide)) (by rfl) (pa_cons (pv 0) (pa_cons (pv 2) pa_nil))) (pa_cons (pe_callC c_first_numbers (hr.mono (by decide)) (by rfl) (pa_cons (pv 1) (pa_cons (pv 2) pa_nil))) pa_nil))) (pg_tup rfl (pgs_cons (pg_name (i := 3) nd rfl (by first | exact Or.inl rfl | exact Or.inr rfl)) (pgs_cons (pg_tup rfl (pgs_cons (pg_name (i := 4) nd rfl (by first | exact Or.inl rfl | exact Or.inr rfl)) (pgs_cons (pg_name (i := 5) nd rfl (by first | exact Or.inl rfl | exact Or.inr rfl)) pgs_nil))) pgs_nil)))
    (pss_one (ps_if (pt_cmpR op_ne (pv 4) (pv 5) (nomark _)) (pss_one (ps_ret (pv 3))) pss_nil)))
    (pss_one (ps_ret pe_non))))
abbrev s_less_day : Stmt := topS 37
abbrev n_less_day : List Str := ["one", "other", "first", "length", "many", "gain", "found", "day", "number", "more", "later"]
abbrev p_less_day : List Str := ["one", "other"]
theorem sc_less_day : FnScope n_less_day p_less_day (defScope s_less_day) := ⟨rfl, rfl, rfl, by decide +kernel, rfl, by decide +kernel, by decide +kernel⟩
theorem d_less_day {P : Program} {w : World} {K : PySem.W.Frag} {mg : Str → Option Value} {base : Heap} (Tx : Txt mg) (c_common_way : Callee P w K mg base 3 "common_way" p_common_way sp_common_way) (c_first_numbers : Callee P w K mg base 1 "first_numbers" p_first_numbers sp_first_numbers) (c_risen : Callee P w K mg base 1 "risen" p_risen sp_risen) {f : Addr} {cdv : Value} {A : Around} {outer : List Env} {s : Shared} {H : Hp} {E : XK} (hr : Room 3 (A.deeper (envOfC "less_day" (defScope s_less_day) s.heap.objs.size f cdv))) :
    PSs (cxOf CX0 P w K mg base n_less_day "less_day" (defScope s_less_day) f cdv A outer s H E).nox (defBody s_less_day) (t_less_day K) :=
  have nd := sc_less_day.nd
  (pss_cons (ps_asg (pe_callC c_common_way (hr.mono (by decide)) (by rfl) (pa_cons (pv 0) (pa_cons (pv 1) pa_nil))) (pg_tup rfl (pgs_cons (pg_name (i := 2) nd rfl (by first | exact Or.inl rfl | exact Or.inr rfl)) (pgs_cons (pg_name (i := 3) nd rfl (by first | exact Or.inl rfl | exact Or.inr rfl)) pgs_nil))))
    (pss_cons (ps_par (i := 4) (j := 5) (by rfl) nd rfl rfl (by decide) rfl rfl (pa_cons (pe_op op_add (pv 2) (pv 3)) (pa_cons (pe_op op_sub (pe_callC c_risen (hr.mono (by decide)) (by rfl) (pa_cons (pv 1) (pa_cons (pv 3) pa_nil))) (pe_callC c_risen (hr.mono (by decide)) (by rfl) (pa_cons (pv 0) (pa_cons (pv 3) pa_nil)))) pa_nil)) (by rfl))
    (pss_cons (ps_set (i := 6) nd rfl (by first | exact Or.inl rfl | exact Or.inr rfl) pe_non)
    (pss_cons (ps_for PassesOwn.never rfl (pi_enZ (by rfl) Tx.enumerate (by rfl) Tx.zip (pa_cons (pe_callC c_first_numbers (hr.mono (by decide)) (by rfl) (pa_cons (pv 0) (pa_cons (pv 4) pa_nil))) (pa_cons (pe_callC c_first_numbers (hr.mono (by decide)) (by rfl) (pa_cons (pv 1) (pa_cons (pv 4) pa_nil))) pa_nil))) (pg_tup rfl (pgs_cons (pg_name (i := 7) nd rfl (by first | exact Or.inl rfl | exact Or.inr rfl)) (pgs_cons (pg_tup rfl (pgs_cons (pg_name (i := 8) nd rfl (by first | exact Or.inl rfl | exact Or.inr rfl)) (pgs_cons (pg_name (i := 9) nd rfl (by first | exact Or.inl rfl | exact Or.inr rfl)) pgs_nil))) pgs_nil)))
    (pss_cons (ps_if (pt_cmpR op_lt (pv 8) (pv 9) (nomark _)) (pss_one (ps_ret (pv 7))) pss_nil)
    (pss_one (ps_if (PW.pt (pw_and (pt_cmpR op_ge (pv 7) (pv 2) (nomark _)) (pw_and1 (pt_cmpR op_gt (pv 5) pe_int (nomark _))))) (pss_cons (ps_set (i := 10) nd rfl (by first | exact Or.inl rfl | exact Or.inr rfl) (pe_op op_add (pv 7) (pe_op op_mul (pv 3) (pe_op op_add (pe_op op_fdiv (pe_op op_sub (pv 8) (pv 9)) (pv 5)) pe_int))))
    (pss_one (ps_set (i := 6) nd rfl (by first | exact Or.inl rfl | exact Or.inr rfl) (pe_ifExp (pt_cmp (pc_isN (pv 6)) rfl) (pv 10) (pe_callB (call_min2 rfl) (by rfl) Tx.min (by decide +kernel) (pa_cons (pv 6) (pa_cons (pv 10) pa_nil))))))) pss_nil))))
    (pss_one (ps_ret (pv 6)))))))
abbrev s_least_set : Stmt := topS 39
abbrev n_least_set : List Str := ["told"]
abbrev p_least_set : List Str := ["told"]
theorem sc_least_set : FnScope n_least_set p_least_set (defScope s_least_set) := ⟨rfl, rfl, rfl, by decide +kernel, rfl, by decide +kernel, by decide +kernel⟩
theorem d_least_set {P : Program} {w : World} {K : PySem.W.Frag} {mg : Str → Option Value} {base : Heap} (c_need_set : Callee P w K mg base 3 "need_set" p_need_set sp_need_set) (c_set_from : Callee P w K mg base 5 "set_from" p_set_from sp_set_from) (c_set_row : Callee P w K mg base 1 "set_row" p_set_row sp_set_row) {f : Addr} {cdv : Value} {A : Around} {outer : List Env} {s : Shared} {H : Hp} {E : XK} (hr : Room 5 (A.deeper (envOfC "least_set" (defScope s_least_set) s.heap.objs.size f cdv))) :
    PSs (cxOf CX0 P w K mg base n_least_set "least_set" (defScope s_least_set) f cdv A outer s H E).nox (defBody s_least_set) (t_least_set K) :=
  have nd := sc_least_set.nd
  (pss_cons (ps_expr (pe_callC c_need_set (hr.mono (by decide)) (by rfl) (pa_cons (pv 0) pa_nil)))
    (pss_one (ps_ret (pe_callC c_set_from (hr.mono (by decide)) (by rfl) (pa_cons (pe_callC c_set_row (hr.mono (by decide)) (by rfl) (pa_cons (pv 0) pa_nil)) pa_nil)))))
abbrev s_set_of : Stmt := topS 40
abbrev n_set_of : List Str := ["days", "day"]
abbrev p_set_of : List Str := ["days"]
theorem sc_set_of : FnScope n_set_of p_set_of (defScope s_set_of) := ⟨rfl, rfl, rfl, by decide +kernel, rfl, by decide +kernel, by decide +kernel⟩
theorem d_set_of {P : Program} {w : World} {K : PySem.W.Frag} {mg : Str → Option Value} {base : Heap} (c_need_number : Callee P w K mg base 1 "need_number" p_need_number sp_need_number) (c_set_of_days : Callee P w K mg base 1 "set_of_days" p_set_of_days sp_set_of_days) {f : Addr} {cdv : Value} {A : Around} {outer : List Env} {s : Shared} {H : Hp} {E : XK} (hr : Room 1 (A.deeper (envOfC "set_of" (defScope s_set_of) s.heap.objs.size f cdv))) :
    PSs (cxOf CX0 P w K mg base n_set_of "set_of" (defScope s_set_of) f cdv A outer s H E).nox (defBody s_set_of) (t_set_of K) :=
  have nd := sc_set_of.nd
  (pss_cons (ps_for PassesOwn.never rfl (pi_list (pv 0)) (pg_name (i := 1) nd rfl (by first | exact Or.inl rfl | exact Or.inr rfl))
    (pss_one (ps_expr (pe_callC c_need_number (hr.mono (by decide)) (by rfl) (pa_cons (pv 1) (pa_cons pe_int pa_nil))))))
    (pss_one (ps_ret (pe_callC c_set_of_days (hr.mono (by decide)) (by rfl) (pa_cons (pv 0) pa_nil)))))
abbrev s_common_rows : Stmt := topS 41
abbrev n_common_rows : List Str := ["one", "other", "first", "many"]
abbrev p_common_rows : List Str := ["one", "other"]
theorem sc_common_rows : FnScope n_common_rows p_common_rows (defScope s_common_rows) := ⟨rfl, rfl, rfl, by decide +kernel, rfl, by decide +kernel, by decide +kernel⟩
theorem d_common_rows {P : Program} {w : World} {K : PySem.W.Frag} {mg : Str → Option Value} {base : Heap} (Tx : Txt mg) (c_common_multiple : Callee P w K mg base 2 "common_multiple" p_common_multiple sp_common_multiple) (c_first_of_row : Callee P w K mg base 2 "first_of_row" p_first_of_row sp_first_of_row) (c_set_row : Callee P w K mg base 1 "set_row" p_set_row sp_set_row) {f : Addr} {cdv : Value} {A : Around} {outer : List Env} {s : Shared} {H : Hp} {E : XK} (hr : Room 2 (A.deeper (envOfC "common_rows" (defScope s_common_rows) s.heap.objs.size f cdv))) :
    PSs (cxOf CX0 P w K mg base n_common_rows "common_rows" (defScope s_common_rows) f cdv A outer s H E).nox (defBody s_common_rows) (t_common_rows K) :=
  have nd := sc_common_rows.nd
  (pss_cons (ps_par (i := 2) (j := 3) (by rfl) nd rfl rfl (by decide) rfl rfl (pa_cons (pe_callB (call_max2 rfl) (by rfl) Tx.max (by decide +kernel) (pa_cons (pe_ix ix_tup (pv 0) pe_int (fun _ _ => rfl)) (pa_cons (pe_ix ix_tup (pv 1) pe_int (fun _ _ => rfl)) pa_nil))) (pa_cons (pe_op op_add (pe_callB (call_max2 rfl) (by rfl) Tx.max (by decide +kernel) (pa_cons (pe_ix ix_tup (pv 0) pe_int (fun _ _ => rfl)) (pa_cons (pe_ix ix_tup (pv 1) pe_int (fun _ _ => rfl)) pa_nil))) (pe_callC c_common_multiple (hr.mono (by decide)) (by rfl) (pa_cons (pe_ix ix_tup (pv 0) pe_int (fun _ _ => rfl)) (pa_cons (pe_ix ix_tup (pv 1) pe_int (fun _ _ => rfl)) pa_nil)))) pa_nil)) (by rfl))
    (pss_one (ps_ret (pe_tup (pa_cons (pv 2) (pa_cons (pe_callC c_first_of_row (hr.mono (by decide)) (by rfl) (pa_cons (pe_callC c_set_row (hr.mono (by decide)) (by rfl) (pa_cons (pv 0) pa_nil)) (pa_cons (pv 3) pa_nil))) (pa_cons (pe_callC c_first_of_row (hr.mono (by decide)) (by rfl) (pa_cons (pe_callC c_set_row (hr.mono (by decide)) (by rfl) (pa_cons (pv 1) pa_nil)) (pa_cons (pv 3) pa_nil))) pa_nil)))))))
abbrev s_need_two_days : Stmt := topS 42
abbrev n_need_two_days : List Str := ["one", "other"]
abbrev p_need_two_days : List Str := ["one", "other"]
theorem sc_need_two_days : FnScope n_need_two_days p_need_two_days (defScope s_need_two_days) := ⟨rfl, rfl, rfl, by decide +kernel, rfl, by decide +kernel, by decide +kernel⟩
theorem d_need_two_days {P : Program} {w : World} {K : PySem.W.Frag} {mg : Str → Option Value} {base : Heap} (c_need_set : Callee P w K mg base 3 "need_set" p_need_set sp_need_set) {f : Addr} {cdv : Value} {A : Around} {outer : List Env} {s : Shared} {H : Hp} {E : XK} (hr : Room 3 (A.deeper (envOfC "need_two" (defScope s_need_two_days) s.heap.objs.size f cdv))) :
    PSs (cxOf CX0 P w K mg base n_need_two_days "need_two" (defScope s_need_two_days) f cdv A outer s H E).nox (defBody s_need_two_days) (t_need_two_days K) :=
  have nd := sc_need_two_days.nd
  (pss_cons (ps_expr (pe_callC c_need_set (hr.mono (by decide)) (by rfl) (pa_cons (pv 0) pa_nil)))
    (pss_one (ps_expr (pe_callC c_need_set (hr.mono (by decide)) (by rfl) (pa_cons (pv 1) pa_nil)))))
abbrev s_both : Stmt := topS 44
abbrev n_both : List Str := ["one", "other", "first", "bits", "more", "found", "bit", "late"]
abbrev p_both : List Str := ["one", "other"]
theorem sc_both : FnScope n_both p_both (defScope s_both) := ⟨rfl, rfl, rfl, by decide +kernel, rfl, by decide +kernel, by decide +kernel⟩
theorem d_both {P : Program} {w : World} {K : PySem.W.Frag} {mg : Str → Option Value} {base : Heap} (Tx : Txt mg) (c_common_rows : Callee P w K mg base 3 "common_rows" p_common_rows sp_common_rows) (c_need_two_days : Callee P w K mg base 4 "need_two_days" p_need_two_days sp_need_two_days) (c_set_from : Callee P w K mg base 5 "set_from" p_set_from sp_set_from) {f : Addr} {cdv : Value} {A : Around} {outer : List Env} {s : Shared} {H : Hp} {E : XK} (hr : Room 5 (A.deeper (envOfC "both" (defScope s_both) s.heap.objs.size f cdv))) :
    PSs (cxOf CX0 P w K mg base n_both "both" (defScope s_both) f cdv A outer s H E).nox (defBody s_both) (t_both K) :=
  have nd := sc_both.nd
  (pss_cons (ps_expr (pe_callC c_need_two_days (hr.mono (by decide)) (by rfl) (pa_cons (pv 0) (pa_cons (pv 1) pa_nil))))
    (pss_cons (ps_asg (pe_callC c_common_rows (hr.mono (by decide)) (by rfl) (pa_cons (pv 0) (pa_cons (pv 1) pa_nil))) (pg_tup rfl (pgs_cons (pg_name (i := 2) nd rfl (by first | exact Or.inl rfl | exact Or.inr rfl)) (pgs_cons (pg_name (i := 3) nd rfl (by first | exact Or.inl rfl | exact Or.inr rfl)) (pgs_cons (pg_name (i := 4) nd rfl (by first | exact Or.inl rfl | exact Or.inr rfl)) pgs_nil)))))
    (pss_cons (ps_setLc (i := 5) (own := [("bit", 6), ("late", 7)]) (g := (gTup K 2 (gCons (gName 6) (gCons (gName 7) gNil)))) (tt := tYes) rfl nd rfl rfl (sw_true rfl rfl rfl (by decide +kernel)) (pi_zip (by rfl) Tx.zip (pa_cons (pv 3) (pa_cons (pv 4) pa_nil))) (blkOk_by (own := [("bit", 6), ("late", 7)]) (N := n_both) (sc := defScope s_both) (by decide +kernel)) (fun _ _ _ _ _ => (pg_tup rfl (pgs_cons (pg_name (i := 6) nd rfl (by first | exact Or.inl rfl | exact Or.inr rfl)) (pgs_cons (pg_name (i := 7) nd rfl (by first | exact Or.inl rfl | exact Or.inr rfl)) pgs_nil)))) (fun _ _ _ _ _ => pts_nil) (fun _ _ _ _ _ => (pe_op op_mul (pv 6) (pv 7))))
    (pss_one (ps_ret (pe_callC c_set_from (hr.mono (by decide)) (by rfl) (pa_cons (pe_tup (pa_cons (pe_slice sl_list (pv 5) po_none (po_some (pv 2))) (pa_cons (pe_slice sl_list (pv 5) (po_some (pv 2)) po_none) pa_nil))) pa_nil)))))))
abbrev s_either : Stmt := topS 45
abbrev n_either : List Str := ["one", "other", "first", "bits", "more", "found", "bit", "late"]
abbrev p_either : List Str := ["one", "other"]
theorem sc_either : FnScope n_either p_either (defScope s_either) := ⟨rfl, rfl, rfl, by decide +kernel, rfl, by decide +kernel, by decide +kernel⟩
theorem d_either {P : Program} {w : World} {K : PySem.W.Frag} {mg : Str → Option Value} {base : Heap} (Tx : Txt mg) (c_common_rows : Callee P w K mg base 3 "common_rows" p_common_rows sp_common_rows) (c_need_two_days : Callee P w K mg base 4 "need_two_days" p_need_two_days sp_need_two_days) (c_set_from : Callee P w K mg base 5 "set_from" p_set_from sp_set_from) {f : Addr} {cdv : Value} {A : Around} {outer : List Env} {s : Shared} {H : Hp} {E : XK} (hr : Room 5 (A.deeper (envOfC "either" (defScope s_either) s.heap.objs.size f cdv))) :
    PSs (cxOf CX0 P w K mg base n_either "either" (defScope s_either) f cdv A outer s H E).nox (defBody s_either) (t_either K) :=
  have nd := sc_either.nd
  (pss_cons (ps_expr (pe_callC c_need_two_days (hr.mono (by decide)) (by rfl) (pa_cons (pv 0) (pa_cons (pv 1) pa_nil))))
    (pss_cons (ps_asg (pe_callC c_common_rows (hr.mono (by decide)) (by rfl) (pa_cons (pv 0) (pa_cons (pv 1) pa_nil))) (pg_tup rfl (pgs_cons (pg_name (i := 2) nd rfl (by first | exact Or.inl rfl | exact Or.inr rfl)) (pgs_cons (pg_name (i := 3) nd rfl (by first | exact Or.inl rfl | exact Or.inr rfl)) (pgs_cons (pg_name (i := 4) nd rfl (by first | exact Or.inl rfl | exact Or.inr rfl)) pgs_nil)))))
    (pss_cons (ps_setLc (i := 5) (own := [("bit", 6), ("late", 7)]) (g := (gTup K 2 (gCons (gName 6) (gCons (gName 7) gNil)))) (tt := tYes) rfl nd rfl rfl (sw_true rfl rfl rfl (by decide +kernel)) (pi_zip (by rfl) Tx.zip (pa_cons (pv 3) (pa_cons (pv 4) pa_nil))) (blkOk_by (own := [("bit", 6), ("late", 7)]) (N := n_either) (sc := defScope s_either) (by decide +kernel)) (fun _ _ _ _ _ => (pg_tup rfl (pgs_cons (pg_name (i := 6) nd rfl (by first | exact Or.inl rfl | exact Or.inr rfl)) (pgs_cons (pg_name (i := 7) nd rfl (by first | exact Or.inl rfl | exact Or.inr rfl)) pgs_nil)))) (fun _ _ _ _ _ => pts_nil) (fun _ _ _ _ _ => (pe_callB (call_max2 rfl) (by rfl) Tx.max (by decide +kernel) (pa_cons (pv 6) (pa_cons (pv 7) pa_nil)))))
    (pss_one (ps_ret (pe_callC c_set_from (hr.mono (by decide)) (by rfl) (pa_cons (pe_tup (pa_cons (pe_slice sl_list (pv 5) po_none (po_some (pv 2))) (pa_cons (pe_slice sl_list (pv 5) (po_some (pv 2)) po_none) pa_nil))) pa_nil)))))))
abbrev s_but : Stmt := topS 46
abbrev n_but : List Str := ["one", "other", "first", "bits", "more", "found", "bit", "late"]
abbrev p_but : List Str := ["one", "other"]
theorem sc_but : FnScope n_but p_but (defScope s_but) := ⟨rfl, rfl, rfl, by decide +kernel, rfl, by decide +kernel, by decide +kernel⟩
theorem d_but {P : Program} {w : World} {K : PySem.W.Frag} {mg : Str → Option Value} {base : Heap} (Tx : Txt mg) (c_common_rows : Callee P w K mg base 3 "common_rows" p_common_rows sp_common_rows) (c_need_two_days : Callee P w K mg base 4 "need_two_days" p_need_two_days sp_need_two_days) (c_set_from : Callee P w K mg base 5 "set_from" p_set_from sp_set_from) {f : Addr} {cdv : Value} {A : Around} {outer : List Env} {s : Shared} {H : Hp} {E : XK} (hr : Room 5 (A.deeper (envOfC "but" (defScope s_but) s.heap.objs.size f cdv))) :
    PSs (cxOf CX0 P w K mg base n_but "but" (defScope s_but) f cdv A outer s H E).nox (defBody s_but) (t_but K) :=
  have nd := sc_but.nd
  (pss_cons (ps_expr (pe_callC c_need_two_days (hr.mono (by decide)) (by rfl) (pa_cons (pv 0) (pa_cons (pv 1) pa_nil))))
    (pss_cons (ps_asg (pe_callC c_common_rows (hr.mono (by decide)) (by rfl) (pa_cons (pv 0) (pa_cons (pv 1) pa_nil))) (pg_tup rfl (pgs_cons (pg_name (i := 2) nd rfl (by first | exact Or.inl rfl | exact Or.inr rfl)) (pgs_cons (pg_name (i := 3) nd rfl (by first | exact Or.inl rfl | exact Or.inr rfl)) (pgs_cons (pg_name (i := 4) nd rfl (by first | exact Or.inl rfl | exact Or.inr rfl)) pgs_nil)))))
    (pss_cons (ps_setLc (i := 5) (own := [("bit", 6), ("late", 7)]) (g := (gTup K 2 (gCons (gName 6) (gCons (gName 7) gNil)))) (tt := tYes) rfl nd rfl rfl (sw_true rfl rfl rfl (by decide +kernel)) (pi_zip (by rfl) Tx.zip (pa_cons (pv 3) (pa_cons (pv 4) pa_nil))) (blkOk_by (own := [("bit", 6), ("late", 7)]) (N := n_but) (sc := defScope s_but) (by decide +kernel)) (fun _ _ _ _ _ => (pg_tup rfl (pgs_cons (pg_name (i := 6) nd rfl (by first | exact Or.inl rfl | exact Or.inr rfl)) (pgs_cons (pg_name (i := 7) nd rfl (by first | exact Or.inl rfl | exact Or.inr rfl)) pgs_nil)))) (fun _ _ _ _ _ => pts_nil) (fun _ _ _ _ _ => (pe_op op_mul (pv 6) (pe_op op_sub pe_int (pv 7)))))
    (pss_one (ps_ret (pe_callC c_set_from (hr.mono (by decide)) (by rfl) (pa_cons (pe_tup (pa_cons (pe_slice sl_list (pv 5) po_none (po_some (pv 2))) (pa_cons (pe_slice sl_list (pv 5) (po_some (pv 2)) po_none) pa_nil))) pa_nil)))))))
abbrev s_others : Stmt := topS 47
abbrev n_others : List Str := ["told", "begun", "again", "bit"]
abbrev p_others : List Str := ["told"]
theorem sc_others : FnScope n_others p_others (defScope s_others) := ⟨rfl, rfl, rfl, by decide +kernel, rfl, by decide +kernel, by decide +kernel⟩
theorem d_others {P : Program} {w : World} {K : PySem.W.Frag} {mg : Str → Option Value} {base : Heap} (c_need_set : Callee P w K mg base 3 "need_set" p_need_set sp_need_set) (c_set_from : Callee P w K mg base 5 "set_from" p_set_from sp_set_from) (c_set_row : Callee P w K mg base 1 "set_row" p_set_row sp_set_row) {f : Addr} {cdv : Value} {A : Around} {outer : List Env} {s : Shared} {H : Hp} {E : XK} (hr : Room 5 (A.deeper (envOfC "others" (defScope s_others) s.heap.objs.size f cdv))) :
    PSs (cxOf CX0 P w K mg base n_others "others" (defScope s_others) f cdv A outer s H E).nox (defBody s_others) (t_others K) :=
  have nd := sc_others.nd
  (pss_cons (ps_expr (pe_callC c_need_set (hr.mono (by decide)) (by rfl) (pa_cons (pv 0) pa_nil)))
    (pss_cons (ps_asg (pe_callC c_set_row (hr.mono (by decide)) (by rfl) (pa_cons (pv 0) pa_nil)) (pg_tup rfl (pgs_cons (pg_name (i := 1) nd rfl (by first | exact Or.inl rfl | exact Or.inr rfl)) (pgs_cons (pg_name (i := 2) nd rfl (by first | exact Or.inl rfl | exact Or.inr rfl)) pgs_nil))))
    (pss_one (ps_ret (pe_callC c_set_from (hr.mono (by decide)) (by rfl) (pa_cons (pe_tup (pa_cons (pe_lc (own := [("bit", 3)]) (g := (gName 3)) (tt := tYes) rfl nd (pi_list (pv 1)) (blkOk_by (own := [("bit", 3)]) (N := n_others) (sc := defScope s_others) (by decide +kernel)) (fun _ _ _ _ _ => (pg_name (i := 3) nd rfl (by first | exact Or.inl rfl | exact Or.inr rfl))) (fun _ _ _ _ _ => pts_nil) (fun _ _ _ _ _ => (pe_op op_sub pe_int (pv 3)))) (pa_cons (pe_lc (own := [("bit", 3)]) (g := (gName 3)) (tt := tYes) rfl nd (pi_list (pv 2)) (blkOk_by (own := [("bit", 3)]) (N := n_others) (sc := defScope s_others) (by decide +kernel)) (fun _ _ _ _ _ => (pg_name (i := 3) nd rfl (by first | exact Or.inl rfl | exact Or.inr rfl))) (fun _ _ _ _ _ => pts_nil) (fun _ _ _ _ _ => (pe_op op_sub pe_int (pv 3)))) pa_nil))) pa_nil))))))
abbrev s_moved : Stmt := topS 48
abbrev n_moved : List Str := ["told", "days", "begun", "again", "place"]
abbrev p_moved : List Str := ["told", "days"]
theorem sc_moved : FnScope n_moved p_moved (defScope s_moved) := ⟨rfl, rfl, rfl, by decide +kernel, rfl, by decide +kernel, by decide +kernel⟩
theorem d_moved {P : Program} {w : World} {K : PySem.W.Frag} {mg : Str → Option Value} {base : Heap} (Tx : Txt mg) (c_need_set : Callee P w K mg base 3 "need_set" p_need_set sp_need_set) (c_set_from : Callee P w K mg base 5 "set_from" p_set_from sp_set_from) (c_set_row : Callee P w K mg base 1 "set_row" p_set_row sp_set_row) {f : Addr} {cdv : Value} {A : Around} {outer : List Env} {s : Shared} {H : Hp} {E : XK} (hr : Room 5 (A.deeper (envOfC "moved" (defScope s_moved) s.heap.objs.size f cdv))) :
    PSs (cxOf CX0 P w K mg base n_moved "moved" (defScope s_moved) f cdv A outer s H E).nox (defBody s_moved) (t_moved K) :=
  have nd := sc_moved.nd
  (pss_cons (ps_expr (pe_callC c_need_set (hr.mono (by decide)) (by rfl) (pa_cons (pv 0) pa_nil)))
    (pss_cons (ps_asg (pe_callC c_set_row (hr.mono (by decide)) (by rfl) (pa_cons (pv 0) pa_nil)) (pg_tup rfl (pgs_cons (pg_name (i := 2) nd rfl (by first | exact Or.inl rfl | exact Or.inr rfl)) (pgs_cons (pg_name (i := 3) nd rfl (by first | exact Or.inl rfl | exact Or.inr rfl)) pgs_nil))))
    (pss_cons (ps_if (pt_cmpR op_ge (pv 1) pe_int (nomark _)) (pss_one (ps_ret (pe_callC c_set_from (hr.mono (by decide)) (by rfl) (pa_cons (pe_tup (pa_cons (pe_op op_cat (pe_op op_rep (pe_lst (pa_cons pe_int pa_nil)) (pv 1)) (pv 2)) (pa_cons (pv 3) pa_nil))) pa_nil)))) pss_nil)
    (pss_cons (ps_set (i := 4) nd rfl (by first | exact Or.inl rfl | exact Or.inr rfl) (pe_op op_mod (pe_callB (call_max2 rfl) (by rfl) Tx.max (by decide +kernel) (pa_cons pe_int (pa_cons (pe_op op_sub (pe_un un_neg (pv 1)) (pe_callB call_len_seq (by rfl) Tx.len PySem.boot_len (pa_cons (pv 2) pa_nil))) pa_nil))) (pe_callB call_len_seq (by rfl) Tx.len PySem.boot_len (pa_cons (pv 3) pa_nil))))
    (pss_one (ps_ret (pe_callC c_set_from (hr.mono (by decide)) (by rfl) (pa_cons (pe_tup (pa_cons (pe_slice sl_list (pv 2) (po_some (pe_un un_neg (pv 1))) po_none) (pa_cons (pe_op op_cat (pe_slice sl_list (pv 3) (po_some (pv 4)) po_none) (pe_slice sl_list (pv 3) po_none (po_some (pv 4)))) pa_nil))) pa_nil))))))))
abbrev s_first_apart : Stmt := topS 49
abbrev n_first_apart : List Str := ["one", "other", "many", "day", "pair"]
abbrev p_first_apart : List Str := ["one", "other"]
theorem sc_first_apart : FnScope n_first_apart p_first_apart (defScope s_first_apart) := ⟨rfl, rfl, rfl, by decide +kernel, rfl, by decide +kernel, by decide +kernel⟩
theorem d_first_apart {P : Program} {w : World} {K : PySem.W.Frag} {mg : Str → Option Value} {base : Heap} (Tx : Txt mg) (c_first_of_row : Callee P w K mg base 2 "first_of_row" p_first_of_row sp_first_of_row) (c_need_two_days : Callee P w K mg base 4 "need_two_days" p_need_two_days sp_need_two_days) (c_set_row : Callee P w K mg base 1 "set_row" p_set_row sp_set_row) {f : Addr} {cdv : Value} {A : Around} {outer : List Env} {s : Shared} {H : Hp} {E : XK} (hr : Room 4 (A.deeper (envOfC "first_apart" (defScope s_first_apart) s.heap.objs.size f cdv))) :
    PSs (cxOf CX0 P w K mg base n_first_apart "first_apart" (defScope s_first_apart) f cdv A outer s H E).nox (defBody s_first_apart) (t_first_apart K) :=
  have nd := sc_first_apart.nd
  (pss_cons (ps_expr (pe_callC c_need_two_days (hr.mono (by decide)) (by rfl) (pa_cons (pv 0) (pa_cons (pv 1) pa_nil))))
    (pss_cons (ps_set (i := 2) nd rfl (by first | exact Or.inl rfl | exact Or.inr rfl) (pe_op op_add (pe_op op_add (pe_callB (call_max2 rfl) (by rfl) Tx.max (by decide +kernel) (pa_cons (pe_ix ix_tup (pv 0) pe_int (fun _ _ => rfl)) (pa_cons (pe_ix ix_tup (pv 1) pe_int (fun _ _ => rfl)) pa_nil))) (pe_ix ix_tup (pv 0) pe_int (fun _ _ => rfl))) (pe_ix ix_tup (pv 1) pe_int (fun _ _ => rfl))))
    (pss_cons (ps_for PassesOwn.never rfl (pi_enZ (by rfl) Tx.enumerate (by rfl) Tx.zip (pa_cons (pe_callC c_first_of_row (hr.mono (by decide)) (by rfl) (pa_cons (pe_callC c_set_row (hr.mono (by decide)) (by rfl) (pa_cons (pv 0) pa_nil)) (pa_cons (pv 2) pa_nil))) (pa_cons (pe_callC c_first_of_row (hr.mono (by decide)) (by rfl) (pa_cons (pe_callC c_set_row (hr.mono (by decide)) (by rfl) (pa_cons (pv 1) pa_nil)) (pa_cons (pv 2) pa_nil))) pa_nil))) (pg_tup rfl (pgs_cons (pg_name (i := 3) nd rfl (by first | exact Or.inl rfl | exact Or.inr rfl)) (pgs_cons (pg_name (i := 4) nd rfl (by first | exact Or.inl rfl | exact Or.inr rfl)) pgs_nil)))
    (pss_one (ps_if (pt_cmpR op_ne (pe_ix ix_tup (pv 4) pe_int (fun _ _ => rfl)) (pe_ix ix_tup (pv 4) pe_int (fun _ _ => rfl)) (nomark _)) (pss_one (ps_ret (pv 3))) pss_nil)))
    (pss_one (ps_ret pe_non)))))
abbrev s_meeting : Stmt := topS 50
abbrev n_meeting : List Str := ["one", "other", "first", "bits", "more", "day", "pair"]
abbrev p_meeting : List Str := ["one", "other"]
theorem sc_meeting : FnScope n_meeting p_meeting (defScope s_meeting) := ⟨rfl, rfl, rfl, by decide +kernel, rfl, by decide +kernel, by decide +kernel⟩
theorem d_meeting {P : Program} {w : World} {K : PySem.W.Frag} {mg : Str → Option Value} {base : Heap} (Tx : Txt mg) (c_common_rows : Callee P w K mg base 3 "common_rows" p_common_rows sp_common_rows) (c_need_two_days : Callee P w K mg base 4 "need_two_days" p_need_two_days sp_need_two_days) {f : Addr} {cdv : Value} {A : Around} {outer : List Env} {s : Shared} {H : Hp} {E : XK} (hr : Room 4 (A.deeper (envOfC "meeting" (defScope s_meeting) s.heap.objs.size f cdv))) :
    PSs (cxOf CX0 P w K mg base n_meeting "meeting" (defScope s_meeting) f cdv A outer s H E).nox (defBody s_meeting) (t_meeting K) :=
  have nd := sc_meeting.nd
  (pss_cons (ps_expr (pe_callC c_need_two_days (hr.mono (by decide)) (by rfl) (pa_cons (pv 0) (pa_cons (pv 1) pa_nil))))
    (pss_cons (ps_asg (pe_callC c_common_rows (hr.mono (by decide)) (by rfl) (pa_cons (pv 0) (pa_cons (pv 1) pa_nil))) (pg_tup rfl (pgs_cons (pg_name (i := 2) nd rfl (by first | exact Or.inl rfl | exact Or.inr rfl)) (pgs_cons (pg_name (i := 3) nd rfl (by first | exact Or.inl rfl | exact Or.inr rfl)) (pgs_cons (pg_name (i := 4) nd rfl (by first | exact Or.inl rfl | exact Or.inr rfl)) pgs_nil)))))
    (pss_cons (ps_for PassesOwn.never rfl (pi_enZ (by rfl) Tx.enumerate (by rfl) Tx.zip (pa_cons (pv 3) (pa_cons (pv 4) pa_nil))) (pg_tup rfl (pgs_cons (pg_name (i := 5) nd rfl (by first | exact Or.inl rfl | exact Or.inr rfl)) (pgs_cons (pg_name (i := 6) nd rfl (by first | exact Or.inl rfl | exact Or.inr rfl)) pgs_nil)))
    (pss_one (ps_if (pt_cmpR (op_eqD hr.units) (pv 6) (pe_tup (pa_cons pe_int (pa_cons pe_int pa_nil))) (nomark _)) (pss_one (ps_ret (pv 5))) pss_nil)))
    (pss_one (ps_ret pe_non)))))
abbrev s_next_day : Stmt := topS 51
abbrev n_next_day : List Str := ["told", "day"]
abbrev p_next_day : List Str := ["told", "day"]
theorem sc_next_day : FnScope n_next_day p_next_day (defScope s_next_day) := ⟨rfl, rfl, rfl, by decide +kernel, rfl, by decide +kernel, by decide +kernel⟩
theorem d_next_day {P : Program} {w : World} {K : PySem.W.Frag} {mg : Str → Option Value} {base : Heap} (c_need_number : Callee P w K mg base 1 "need_number" p_need_number sp_need_number) (c_need_set : Callee P w K mg base 3 "need_set" p_need_set sp_need_set) (c_next_of : Callee P w K mg base 1 "next_of" p_next_of sp_next_of) {f : Addr} {cdv : Value} {A : Around} {outer : List Env} {s : Shared} {H : Hp} {E : XK} (hr : Room 3 (A.deeper (envOfC "next_day" (defScope s_next_day) s.heap.objs.size f cdv))) :
    PSs (cxOf CX0 P w K mg base n_next_day "next_day" (defScope s_next_day) f cdv A outer s H E).nox (defBody s_next_day) (t_next_day K) :=
  have nd := sc_next_day.nd
  (pss_cons (ps_expr (pe_callC c_need_set (hr.mono (by decide)) (by rfl) (pa_cons (pv 0) pa_nil)))
    (pss_cons (ps_expr (pe_callC c_need_number (hr.mono (by decide)) (by rfl) (pa_cons (pv 1) (pa_cons pe_int pa_nil))))
    (pss_one (ps_ret (pe_callC c_next_of (hr.mono (by decide)) (by rfl) (pa_cons (pv 0) (pa_cons (pv 1) pa_nil)))))))
abbrev s_counts : Stmt := topS 52
abbrev n_counts : List Str := ["told"]
abbrev p_counts : List Str := ["told"]
theorem sc_counts : FnScope n_counts p_counts (defScope s_counts) := ⟨rfl, rfl, rfl, by decide +kernel, rfl, by decide +kernel, by decide +kernel⟩
theorem d_counts {P : Program} {w : World} {K : PySem.W.Frag} {mg : Str → Option Value} {base : Heap} (c_counts_of : Callee P w K mg base 4 "counts_of" p_counts_of sp_counts_of) (c_need_set : Callee P w K mg base 3 "need_set" p_need_set sp_need_set) {f : Addr} {cdv : Value} {A : Around} {outer : List Env} {s : Shared} {H : Hp} {E : XK} (hr : Room 4 (A.deeper (envOfC "counts" (defScope s_counts) s.heap.objs.size f cdv))) :
    PSs (cxOf CX0 P w K mg base n_counts "counts" (defScope s_counts) f cdv A outer s H E).nox (defBody s_counts) (t_counts K) :=
  have nd := sc_counts.nd
  (pss_cons (ps_expr (pe_callC c_need_set (hr.mono (by decide)) (by rfl) (pa_cons (pv 0) pa_nil)))
    (pss_one (ps_ret (pe_callC c_counts_of (hr.mono (by decide)) (by rfl) (pa_cons (pv 0) pa_nil)))))
abbrev s_need_two_ladders : Stmt := topS 54
abbrev n_need_two_ladders : List Str := ["one", "other"]
abbrev p_need_two_ladders : List Str := ["one", "other"]
theorem sc_need_two_ladders : FnScope n_need_two_ladders p_need_two_ladders (defScope s_need_two_ladders) := ⟨rfl, rfl, rfl, by decide +kernel, rfl, by decide +kernel, by decide +kernel⟩
theorem d_need_two_ladders {P : Program} {w : World} {K : PySem.W.Frag} {mg : Str → Option Value} {base : Heap} (c_need_ladder : Callee P w K mg base 3 "need_ladder" p_need_ladder sp_need_ladder) {f : Addr} {cdv : Value} {A : Around} {outer : List Env} {s : Shared} {H : Hp} {E : XK} (hr : Room 3 (A.deeper (envOfC "need_two" (defScope s_need_two_ladders) s.heap.objs.size f cdv))) :
    PSs (cxOf CX0 P w K mg base n_need_two_ladders "need_two" (defScope s_need_two_ladders) f cdv A outer s H E).nox (defBody s_need_two_ladders) (t_need_two_ladders K) :=
  have nd := sc_need_two_ladders.nd
  (pss_cons (ps_expr (pe_callC c_need_ladder (hr.mono (by decide)) (by rfl) (pa_cons (pv 0) pa_nil)))
    (pss_one (ps_expr (pe_callC c_need_ladder (hr.mono (by decide)) (by rfl) (pa_cons (pv 1) pa_nil)))))
abbrev s_value : Stmt := topS 56
abbrev n_value : List Str := ["ladder", "day"]
abbrev p_value : List Str := ["ladder", "day"]
theorem sc_value : FnScope n_value p_value (defScope s_value) := ⟨rfl, rfl, rfl, by decide +kernel, rfl, by decide +kernel, by decide +kernel⟩
theorem d_value {P : Program} {w : World} {K : PySem.W.Frag} {mg : Str → Option Value} {base : Heap} (c_need_ladder : Callee P w K mg base 3 "need_ladder" p_need_ladder sp_need_ladder) (c_need_number : Callee P w K mg base 1 "need_number" p_need_number sp_need_number) (c_number_at : Callee P w K mg base 1 "number_at" p_number_at sp_number_at) {f : Addr} {cdv : Value} {A : Around} {outer : List Env} {s : Shared} {H : Hp} {E : XK} (hr : Room 3 (A.deeper (envOfC "value" (defScope s_value) s.heap.objs.size f cdv))) :
    PSs (cxOf CX0 P w K mg base n_value "value" (defScope s_value) f cdv A outer s H E).nox (defBody s_value) (t_value K) :=
  have nd := sc_value.nd
  (pss_cons (ps_expr (pe_callC c_need_ladder (hr.mono (by decide)) (by rfl) (pa_cons (pv 0) pa_nil)))
    (pss_cons (ps_expr (pe_callC c_need_number (hr.mono (by decide)) (by rfl) (pa_cons (pv 1) (pa_cons pe_int pa_nil))))
    (pss_one (ps_ret (pe_callC c_number_at (hr.mono (by decide)) (by rfl) (pa_cons (pv 0) (pa_cons (pv 1) pa_nil)))))))
abbrev s_joined : Stmt := topS 57
abbrev n_joined : List Str := ["one", "other"]
abbrev p_joined : List Str := ["one", "other"]
theorem sc_joined : FnScope n_joined p_joined (defScope s_joined) := ⟨rfl, rfl, rfl, by decide +kernel, rfl, by decide +kernel, by decide +kernel⟩
theorem d_joined {P : Program} {w : World} {K : PySem.W.Frag} {mg : Str → Option Value} {base : Heap} (c_joined_ladders : Callee P w K mg base 4 "joined_ladders" p_joined_ladders sp_joined_ladders) (c_need_two_ladders : Callee P w K mg base 4 "need_two_ladders" p_need_two_ladders sp_need_two_ladders) {f : Addr} {cdv : Value} {A : Around} {outer : List Env} {s : Shared} {H : Hp} {E : XK} (hr : Room 4 (A.deeper (envOfC "joined" (defScope s_joined) s.heap.objs.size f cdv))) :
    PSs (cxOf CX0 P w K mg base n_joined "joined" (defScope s_joined) f cdv A outer s H E).nox (defBody s_joined) (t_joined K) :=
  have nd := sc_joined.nd
  (pss_cons (ps_expr (pe_callC c_need_two_ladders (hr.mono (by decide)) (by rfl) (pa_cons (pv 0) (pa_cons (pv 1) pa_nil))))
    (pss_one (ps_ret (pe_callC c_joined_ladders (hr.mono (by decide)) (by rfl) (pa_cons (pv 0) (pa_cons (pv 1) pa_nil))))))
abbrev s_plus : Stmt := topS 58
abbrev n_plus : List Str := ["one", "other"]
abbrev p_plus : List Str := ["one", "other"]
theorem sc_plus : FnScope n_plus p_plus (defScope s_plus) := ⟨rfl, rfl, rfl, by decide +kernel, rfl, by decide +kernel, by decide +kernel⟩
theorem d_plus {P : Program} {w : World} {K : PySem.W.Frag} {mg : Str → Option Value} {base : Heap} (c_added_ladders : Callee P w K mg base 4 "added_ladders" p_added_ladders sp_added_ladders) (c_need_two_ladders : Callee P w K mg base 4 "need_two_ladders" p_need_two_ladders sp_need_two_ladders) {f : Addr} {cdv : Value} {A : Around} {outer : List Env} {s : Shared} {H : Hp} {E : XK} (hr : Room 4 (A.deeper (envOfC "plus" (defScope s_plus) s.heap.objs.size f cdv))) :
    PSs (cxOf CX0 P w K mg base n_plus "plus" (defScope s_plus) f cdv A outer s H E).nox (defBody s_plus) (t_plus K) :=
  have nd := sc_plus.nd
  (pss_cons (ps_expr (pe_callC c_need_two_ladders (hr.mono (by decide)) (by rfl) (pa_cons (pv 0) (pa_cons (pv 1) pa_nil))))
    (pss_one (ps_ret (pe_callC c_added_ladders (hr.mono (by decide)) (by rfl) (pa_cons (pv 0) (pa_cons (pv 1) pa_nil))))))
abbrev s_alike : Stmt := topS 59
abbrev n_alike : List Str := ["one", "other"]
abbrev p_alike : List Str := ["one", "other"]
theorem sc_alike : FnScope n_alike p_alike (defScope s_alike) := ⟨rfl, rfl, rfl, by decide +kernel, rfl, by decide +kernel, by decide +kernel⟩
theorem d_alike {P : Program} {w : World} {K : PySem.W.Frag} {mg : Str → Option Value} {base : Heap} (c_need_two_ladders : Callee P w K mg base 4 "need_two_ladders" p_need_two_ladders sp_need_two_ladders) (c_unlike_day : Callee P w K mg base 2 "unlike_day" p_unlike_day sp_unlike_day) {f : Addr} {cdv : Value} {A : Around} {outer : List Env} {s : Shared} {H : Hp} {E : XK} (hr : Room 4 (A.deeper (envOfC "alike" (defScope s_alike) s.heap.objs.size f cdv))) :
    PSs (cxOf CX0 P w K mg base n_alike "alike" (defScope s_alike) f cdv A outer s H E).nox (defBody s_alike) (t_alike K) :=
  have nd := sc_alike.nd
  (pss_cons (ps_expr (pe_callC c_need_two_ladders (hr.mono (by decide)) (by rfl) (pa_cons (pv 0) (pa_cons (pv 1) pa_nil))))
    (pss_one (ps_ret (pe_cmp (pc_isN (pe_callC c_unlike_day (hr.mono (by decide)) (by rfl) (pa_cons (pv 0) (pa_cons (pv 1) pa_nil)))) rfl))))
abbrev s_first_unlike : Stmt := topS 60
abbrev n_first_unlike : List Str := ["one", "other"]
abbrev p_first_unlike : List Str := ["one", "other"]
theorem sc_first_unlike : FnScope n_first_unlike p_first_unlike (defScope s_first_unlike) := ⟨rfl, rfl, rfl, by decide +kernel, rfl, by decide +kernel, by decide +kernel⟩
theorem d_first_unlike {P : Program} {w : World} {K : PySem.W.Frag} {mg : Str → Option Value} {base : Heap} (c_need_two_ladders : Callee P w K mg base 4 "need_two_ladders" p_need_two_ladders sp_need_two_ladders) (c_unlike_day : Callee P w K mg base 2 "unlike_day" p_unlike_day sp_unlike_day) {f : Addr} {cdv : Value} {A : Around} {outer : List Env} {s : Shared} {H : Hp} {E : XK} (hr : Room 4 (A.deeper (envOfC "first_unlike" (defScope s_first_unlike) s.heap.objs.size f cdv))) :
    PSs (cxOf CX0 P w K mg base n_first_unlike "first_unlike" (defScope s_first_unlike) f cdv A outer s H E).nox (defBody s_first_unlike) (t_first_unlike K) :=
  have nd := sc_first_unlike.nd
  (pss_cons (ps_expr (pe_callC c_need_two_ladders (hr.mono (by decide)) (by rfl) (pa_cons (pv 0) (pa_cons (pv 1) pa_nil))))
    (pss_one (ps_ret (pe_callC c_unlike_day (hr.mono (by decide)) (by rfl) (pa_cons (pv 0) (pa_cons (pv 1) pa_nil))))))
abbrev s_first_less : Stmt := topS 61
abbrev n_first_less : List Str := ["one", "other"]
abbrev p_first_less : List Str := ["one", "other"]
theorem sc_first_less : FnScope n_first_less p_first_less (defScope s_first_less) := ⟨rfl, rfl, rfl, by decide +kernel, rfl, by decide +kernel, by decide +kernel⟩
theorem d_first_less {P : Program} {w : World} {K : PySem.W.Frag} {mg : Str → Option Value} {base : Heap} (c_less_day : Callee P w K mg base 4 "less_day" p_less_day sp_less_day) (c_need_two_ladders : Callee P w K mg base 4 "need_two_ladders" p_need_two_ladders sp_need_two_ladders) {f : Addr} {cdv : Value} {A : Around} {outer : List Env} {s : Shared} {H : Hp} {E : XK} (hr : Room 4 (A.deeper (envOfC "first_less" (defScope s_first_less) s.heap.objs.size f cdv))) :
    PSs (cxOf CX0 P w K mg base n_first_less "first_less" (defScope s_first_less) f cdv A outer s H E).nox (defBody s_first_less) (t_first_less K) :=
  have nd := sc_first_less.nd
  (pss_cons (ps_expr (pe_callC c_need_two_ladders (hr.mono (by decide)) (by rfl) (pa_cons (pv 0) (pa_cons (pv 1) pa_nil))))
    (pss_one (ps_ret (pe_callC c_less_day (hr.mono (by decide)) (by rfl) (pa_cons (pv 0) (pa_cons (pv 1) pa_nil))))))
abbrev s_z_has : Stmt := topS 67
abbrev n_z_has : List Str := ["_law_told", "_law_day", "_law_early", "_law_first", "_law_length", "_law_found"]
abbrev p_z_has : List Str := ["_law_told", "_law_day"]
theorem sc_z_has : FnScope n_z_has p_z_has (defScope s_z_has) := ⟨rfl, rfl, rfl, by decide +kernel, rfl, by decide +kernel, by decide +kernel⟩
theorem d_z_has {P : Program} {w : World} {K : PySem.W.Frag} {mg : Str → Option Value} {base : Heap} (Tx : Txt mg) {f : Addr} {cdv : Value} {A : Around} {outer : List Env} {s : Shared} {H : Hp} {E : XK} (hr : Room 0 (A.deeper (envOfC "_law_dl_has" (defScope s_z_has) s.heap.objs.size f cdv))) :
    PSs (cxOf CX0 P w K mg base n_z_has "_law_dl_has" (defScope s_z_has) f cdv A outer s H E).nox (defBody s_z_has) (t_z_has K) :=
  have nd := sc_z_has.nd
  (pss_cons (ps_asg (pv 0) (pg_tup rfl (pgs_cons (pg_name (i := 2) nd rfl (by first | exact Or.inl rfl | exact Or.inr rfl)) (pgs_cons (pg_name (i := 3) nd rfl (by first | exact Or.inl rfl | exact Or.inr rfl)) (pgs_cons (pg_name (i := 4) nd rfl (by first | exact Or.inl rfl | exact Or.inr rfl)) (pgs_cons (pg_name (i := 5) nd rfl (by first | exact Or.inl rfl | exact Or.inr rfl)) pgs_nil))))))
    (pss_one (ps_ret (pe_ifExp (pt_cmpR op_lt (pv 1) (pv 3) (nomark _)) (pe_cmpR op_in_seq (pv 1) (pv 2) (by rfl)) (pe_cmpR op_in_seq (pe_op op_mod (pe_callTy call_int1 (by rfl) Tx.int (by decide +kernel) (pa_cons (pe_op op_sub (pv 1) (pv 3)) pa_nil)) (pv 4)) (pv 5) (by rfl))))))
abbrev s_z_sack : Stmt := topS 63
abbrev n_z_sack : List Str := ["_law_script", "_law_rank", "_law_cell"]
abbrev p_z_sack : List Str := ["_law_script", "_law_rank"]
theorem sc_z_sack : FnScope n_z_sack p_z_sack (defScope s_z_sack) := ⟨rfl, rfl, rfl, by decide +kernel, rfl, by decide +kernel, by decide +kernel⟩
theorem d_z_sack {P : Program} {w : World} {K : PySem.W.Frag} {mg : Str → Option Value} {base : Heap} (Tx : Txt mg) {f : Addr} {cdv : Value} {A : Around} {outer : List Env} {s : Shared} {H : Hp} {E : XK} (hr : Room 0 (A.deeper (envOfC "_law_dl_sack" (defScope s_z_sack) s.heap.objs.size f cdv))) (hg : (A.deeper (envOfC "_law_dl_sack" (defScope s_z_sack) s.heap.objs.size f cdv)).guards = some []) :
    PSs (cxOf CX0 P w K mg base n_z_sack "_law_dl_sack" (defScope s_z_sack) f cdv A outer s H E).nox (defBody s_z_sack) (t_z_sack K) :=
  have nd := sc_z_sack.nd
  (pss_cons (ps_set (i := 2) nd rfl (by first | exact Or.inl rfl | exact Or.inr rfl) (pe_ifExp (pt_cmpR op_lt (pv 1) (pe_callB call_len_seq (by rfl) Tx.len PySem.boot_len (pa_cons (pv 0) pa_nil)) (nomark _)) (pe_ix ix_list (pv 0) (pv 1) (fun _ _ => rfl)) pe_int))
    (pss_one (ps_ret (pe_lst (pa_cons (pe_callB (call_max2 rfl) (by rfl) Tx.max (by decide +kernel) (pa_cons pe_int (pa_cons (pe_op op_sub (pe_callB call_abs (by rfl) Tx.abs (by decide +kernel) (pa_cons (pv 2) pa_nil)) (pe_op op_powW pe_int pe_int)) pa_nil))) (pa_cons (pe_op op_mod (pe_callTy call_int1 (by rfl) Tx.int (by decide +kernel) (pa_cons (pe_op op_add (pe_op op_add (pe_op op_mul (pv 2) pe_int) (pe_op op_mul (pv 1) pe_int)) pe_int) pa_nil)) (pe_op op_add (pe_op op_powW pe_int pe_int) pe_int)) (pa_cons pe_int pa_nil)))))))
abbrev s_z_pick : Stmt := topS 64
abbrev n_z_pick : List Str := ["_law_sack", "_law_many", "_law_drawn", "_law_stirred"]
abbrev p_z_pick : List Str := ["_law_sack", "_law_many"]
theorem sc_z_pick : FnScope n_z_pick p_z_pick (defScope s_z_pick) := ⟨rfl, rfl, rfl, by decide +kernel, rfl, by decide +kernel, by decide +kernel⟩
theorem d_z_pick {P : Program} {w : World} {K : PySem.W.Frag} {mg : Str → Option Value} {base : Heap} (Tx : Txt mg) {f : Addr} {cdv : Value} {A : Around} {outer : List Env} {s : Shared} {H : Hp} {E : XK} (hr : Room 0 (A.deeper (envOfC "_law_dl_pick" (defScope s_z_pick) s.heap.objs.size f cdv))) (hg : (A.deeper (envOfC "_law_dl_pick" (defScope s_z_pick) s.heap.objs.size f cdv)).guards = some []) :
    PSs (cxOf CX0 P w K mg base n_z_pick "_law_dl_pick" (defScope s_z_pick) f cdv A outer s H E).nox (defBody s_z_pick) (t_z_pick K) :=
  have nd := sc_z_pick.nd
  (pss_cons (ps_if (pt_cmpR op_gt (pe_ix ix_list (pv 0) pe_int (fun _ _ => rfl)) pe_int (nomark _)) (pss_cons (ps_set (i := 2) nd rfl (by first | exact Or.inl rfl | exact Or.inr rfl) (pe_op op_mod (pe_callTy call_int1 (by rfl) Tx.int (by decide +kernel) (pa_cons (pe_ix ix_list (pv 0) pe_int (fun _ _ => rfl)) pa_nil)) (pv 1)))
    (pss_cons (ps_asg (pe_op op_fdiv (pe_ix ix_list (pv 0) pe_int (fun _ _ => rfl)) (pv 1)) (pg_sub (pv 0) pe_int set_list))
    (pss_one (ps_ret (pv 2))))) pss_nil)
    (pss_cons (ps_asg (pe_op op_add (pe_ix ix_list (pv 0) pe_int (fun _ _ => rfl)) pe_int) (pg_sub (pv 0) pe_int set_list))
    (pss_cons (ps_set (i := 3) nd rfl (by first | exact Or.inl rfl | exact Or.inr rfl) (pe_op op_mod (pe_op op_powW (pe_callTy call_int1 (by rfl) Tx.int (by decide +kernel) (pa_cons (pe_op op_add (pe_ix ix_list (pv 0) pe_int (fun _ _ => rfl)) (pe_op op_mul pe_int (pe_ix ix_list (pv 0) pe_int (fun _ _ => rfl)))) pa_nil)) pe_int) (pe_op op_add (pe_op op_powW pe_int pe_int) pe_int)))
    (pss_cons (ps_set (i := 3) nd rfl (by first | exact Or.inl rfl | exact Or.inr rfl) (pe_op op_mod (pe_op op_powW (pe_callTy call_int1 (by rfl) Tx.int (by decide +kernel) (pa_cons (pe_op op_add (pv 3) (pe_op op_mul pe_int (pe_ix ix_list (pv 0) pe_int (fun _ _ => rfl)))) pa_nil)) pe_int) (pe_op op_add (pe_op op_powW pe_int pe_int) pe_int)))
    (pss_one (ps_ret (pe_op op_mod (pe_callTy call_int1 (by rfl) Tx.int (by decide +kernel) (pa_cons (pe_op op_fdiv (pv 3) pe_int) pa_nil)) (pv 1))))))))
abbrev s_z_length : Stmt := topS 65
abbrev n_z_length : List Str := ["_law_sack", "_law_most", "_law_menu", "_law_number"]
abbrev p_z_length : List Str := ["_law_sack", "_law_most"]
theorem sc_z_length : FnScope n_z_length p_z_length (defScope s_z_length) := ⟨rfl, rfl, rfl, by decide +kernel, rfl, by decide +kernel, by decide +kernel⟩
theorem d_z_length {P : Program} {w : World} {K : PySem.W.Frag} {mg : Str → Option Value} {base : Heap} (Tx : Txt mg) (c_z_pick : CalleeG P w K mg base 1 "_law_dl_pick" p_z_pick sp_z_pick) {f : Addr} {cdv : Value} {A : Around} {outer : List Env} {s : Shared} {H : Hp} {E : XK} (hr : Room 1 (A.deeper (envOfC "_law_dl_length" (defScope s_z_length) s.heap.objs.size f cdv))) (hg : (A.deeper (envOfC "_law_dl_length" (defScope s_z_length) s.heap.objs.size f cdv)).guards = some []) :
    PSs (cxOf CX0 P w K mg base n_z_length "_law_dl_length" (defScope s_z_length) f cdv A outer s H E).nox (defBody s_z_length) (t_z_length K) :=
  have nd := sc_z_length.nd
  (pss_cons (ps_set (i := 2) nd rfl (by first | exact Or.inl rfl | exact Or.inr rfl) (pe_lst (pa_cons pe_int (pa_cons pe_int (pa_cons pe_int (pa_cons pe_int (pa_cons pe_int (pa_cons pe_int (pa_cons pe_int (pa_cons pe_int (pa_cons pe_int (pa_cons pe_int (pa_cons pe_int (pa_cons pe_int (pa_cons pe_int (pa_cons pe_int (pa_cons pe_int (pa_cons pe_int (pa_cons pe_int (pa_cons pe_int (pa_cons pe_int (pa_cons pe_int (pa_cons pe_int pa_nil)))))))))))))))))))))))
    (pss_cons (ps_setLc (i := 2) (own := [("_law_number", 3)]) (g := (gName 3)) (tt := (tTest (tOp rLe (tVar 3) (tVar 1)))) rfl nd rfl rfl (sw_true rfl rfl rfl (by decide +kernel)) (pi_list (pv 2)) (blkOk_by (own := [("_law_number", 3)]) (N := n_z_length) (sc := defScope s_z_length) (by decide +kernel)) (fun _ _ _ _ _ => (pg_name (i := 3) nd rfl (by first | exact Or.inl rfl | exact Or.inr rfl))) (fun _ _ _ _ _ => (pts_one (pt_cmpR op_le (pv 3) (pv 1) (nomark _)))) (fun _ _ _ _ _ => (pv 3)))
    (pss_one (ps_ret (pe_ix ix_list (pv 2) (pe_callG c_z_pick (hr.mono (by decide)) hg (by rfl) (pa_cons (pv 0) (pa_cons (pe_callB call_len_seq (by rfl) Tx.len PySem.boot_len (pa_cons (pv 2) pa_nil)) pa_nil))) (fun _ _ => rfl))))))
abbrev s_z_set : Stmt := topS 66
abbrev n_z_set : List Str := ["_law_sack", "_law_most", "_law_first", "_law_length", "_law_dense", "_law_early", "_law_day", "_law_found", "_law_place"]
abbrev p_z_set : List Str := ["_law_sack", "_law_most"]
theorem sc_z_set : FnScope n_z_set p_z_set (defScope s_z_set) := ⟨rfl, rfl, rfl, by decide +kernel, rfl, by decide +kernel, by decide +kernel⟩
theorem d_z_set {P : Program} {w : World} {K : PySem.W.Frag} {mg : Str → Option Value} {base : Heap} (Tx : Txt mg) (c_z_length : CalleeG P w K mg base 2 "_law_dl_length" p_z_length sp_z_length) (c_z_pick : CalleeG P w K mg base 1 "_law_dl_pick" p_z_pick sp_z_pick) {f : Addr} {cdv : Value} {A : Around} {outer : List Env} {s : Shared} {H : Hp} {E : XK} (hr : Room 2 (A.deeper (envOfC "_law_dl_set" (defScope s_z_set) s.heap.objs.size f cdv))) (hg : (A.deeper (envOfC "_law_dl_set" (defScope s_z_set) s.heap.objs.size f cdv)).guards = some []) :
    PSs (cxOf CX0 P w K mg base n_z_set "_law_dl_set" (defScope s_z_set) f cdv A outer s H E).nox (defBody s_z_set) (t_z_set K) :=
  have nd := sc_z_set.nd
  (pss_cons (ps_par (i := 2) (j := 3) (by rfl) nd rfl rfl (by decide) rfl rfl (pa_cons (pe_callG c_z_pick (hr.mono (by decide)) hg (by rfl) (pa_cons (pv 0) (pa_cons (pe_ix ix_list (pe_lst (pa_cons pe_int (pa_cons pe_int (pa_cons pe_int pa_nil)))) (pe_callG c_z_pick (hr.mono (by decide)) hg (by rfl) (pa_cons (pv 0) (pa_cons pe_int pa_nil))) (fun _ _ => rfl)) pa_nil))) (pa_cons (pe_callG c_z_length (hr.mono (by decide)) hg (by rfl) (pa_cons (pv 0) (pa_cons (pv 1) pa_nil))) pa_nil)) (by rfl))
    (pss_cons (ps_set (i := 4) nd rfl (by first | exact Or.inl rfl | exact Or.inr rfl) (pe_op op_add pe_int (pe_callG c_z_pick (hr.mono (by decide)) hg (by rfl) (pa_cons (pv 0) (pa_cons pe_int pa_nil)))))
    (pss_cons (ps_setLc (i := 5) (own := [("_law_day", 6)]) (g := (gName 6)) (tt := (tTest (tOp rEq (tCall sp_z_pick [] E0 (tCons (tVar 0) (tCons (tOp rAdd (tVar 4) (tC (.int 1))) tNil))) (tC (.int 0))))) rfl nd rfl rfl (sw_true rfl rfl rfl (by decide +kernel)) (pi_range1 (by rfl) Tx.range (pa_cons (pv 2) pa_nil)) (blkOk_by (own := [("_law_day", 6)]) (N := n_z_set) (sc := defScope s_z_set) (by decide +kernel)) (fun _ _ _ _ _ => (pg_name (i := 6) nd rfl (by first | exact Or.inl rfl | exact Or.inr rfl))) (fun _ _ _ _ _ => (pts_one (pt_cmpR op_eq (pe_callG c_z_pick (hr.mono (by decide)) hg (by rfl) (pa_cons (pv 0) (pa_cons (pe_op op_add (pv 4) pe_int) pa_nil))) pe_int (nomark _)))) (fun _ _ _ _ _ => (pv 6)))
    (pss_cons (ps_setLc (i := 7) (own := [("_law_place", 8)]) (g := (gName 8)) (tt := (tTest (tOp rEq (tCall sp_z_pick [] E0 (tCons (tVar 0) (tCons (tOp rAdd (tVar 4) (tC (.int 1))) tNil))) (tC (.int 0))))) rfl nd rfl rfl (sw_true rfl rfl rfl (by decide +kernel)) (pi_range1 (by rfl) Tx.range (pa_cons (pv 3) pa_nil)) (blkOk_by (own := [("_law_place", 8)]) (N := n_z_set) (sc := defScope s_z_set) (by decide +kernel)) (fun _ _ _ _ _ => (pg_name (i := 8) nd rfl (by first | exact Or.inl rfl | exact Or.inr rfl))) (fun _ _ _ _ _ => (pts_one (pt_cmpR op_eq (pe_callG c_z_pick (hr.mono (by decide)) hg (by rfl) (pa_cons (pv 0) (pa_cons (pe_op op_add (pv 4) pe_int) pa_nil))) pe_int (nomark _)))) (fun _ _ _ _ _ => (pv 8)))
    (pss_cons (ps_if (pt_cmpR op_eq (pe_callG c_z_pick (hr.mono (by decide)) hg (by rfl) (pa_cons (pv 0) (pa_cons pe_int pa_nil))) pe_int (nomark _)) (pss_one (ps_set (i := 7) nd rfl (by first | exact Or.inl rfl | exact Or.inr rfl) (pe_lst pa_nil))) pss_nil)
    (pss_one (ps_ret (pe_tup (pa_cons (pv 5) (pa_cons (pv 2) (pa_cons (pv 3) (pa_cons (pv 7) pa_nil))))))))))))
abbrev s_z_set_wide : Stmt := topS 68
abbrev n_z_set_wide : List Str := ["_law_sack", "_law_told", "_law_top", "_law_early", "_law_first", "_law_length", "_law_found", "_law_room", "_law_chances", "_law_times", "_law_begin", "_law_many", "_law_days", "_law_day", "_law_place"]
abbrev p_z_set_wide : List Str := ["_law_sack", "_law_told", "_law_top"]
theorem sc_z_set_wide : FnScope n_z_set_wide p_z_set_wide (defScope s_z_set_wide) := ⟨rfl, rfl, rfl, by decide +kernel, rfl, by decide +kernel, by decide +kernel⟩
theorem d_z_set_wide {P : Program} {w : World} {K : PySem.W.Frag} {mg : Str → Option Value} {base : Heap} (Tx : Txt mg) (c_z_has : Callee P w K mg base 1 "_law_dl_has" p_z_has sp_z_has) (c_z_pick : CalleeG P w K mg base 1 "_law_dl_pick" p_z_pick sp_z_pick) {f : Addr} {cdv : Value} {A : Around} {outer : List Env} {s : Shared} {H : Hp} {E : XK} (hr : Room 1 (A.deeper (envOfC "_law_dl_set_wide" (defScope s_z_set_wide) s.heap.objs.size f cdv))) (hg : (A.deeper (envOfC "_law_dl_set_wide" (defScope s_z_set_wide) s.heap.objs.size f cdv)).guards = some []) :
    PSs (cxOf CX0 P w K mg base n_z_set_wide "_law_dl_set_wide" (defScope s_z_set_wide) f cdv A outer s H E).nox (defBody s_z_set_wide) (t_z_set_wide K) :=
  have nd := sc_z_set_wide.nd
  (pss_cons (ps_asg (pv 1) (pg_tup rfl (pgs_cons (pg_name (i := 3) nd rfl (by first | exact Or.inl rfl | exact Or.inr rfl)) (pgs_cons (pg_name (i := 4) nd rfl (by first | exact Or.inl rfl | exact Or.inr rfl)) (pgs_cons (pg_name (i := 5) nd rfl (by first | exact Or.inl rfl | exact Or.inr rfl)) (pgs_cons (pg_name (i := 6) nd rfl (by first | exact Or.inl rfl | exact Or.inr rfl)) pgs_nil))))))
    (pss_cons (ps_set (i := 7) nd rfl (by first | exact Or.inl rfl | exact Or.inr rfl) (pe_callB (call_max2 rfl) (by rfl) Tx.max (by decide +kernel) (pa_cons pe_int (pa_cons (pe_op op_fdiv (pv 2) (pv 5)) pa_nil))))
    (pss_cons (ps_set (i := 8) nd rfl (by first | exact Or.inl rfl | exact Or.inr rfl) (pe_op op_cat (pe_op op_rep (pe_lst (pa_cons pe_int pa_nil)) pe_int) (pe_lst (pa_cons (pv 7) pa_nil))))
    (pss_cons (ps_set (i := 9) nd rfl (by first | exact Or.inl rfl | exact Or.inr rfl) (pe_callB (call_min2 rfl) (by rfl) Tx.min (by decide +kernel) (pa_cons (pv 7) (pa_cons (pe_op op_add pe_int (pe_callG c_z_pick (hr.mono (by decide)) hg (by rfl) (pa_cons (pv 0) (pa_cons (pe_ix ix_list (pv 8) (pe_callG c_z_pick (hr.mono (by decide)) hg (by rfl) (pa_cons (pv 0) (pa_cons pe_int pa_nil))) (fun _ _ => rfl)) pa_nil)))) pa_nil))))
    (pss_cons (ps_asg (pe_tup (pa_cons (pe_op op_add (pv 4) (pe_callG c_z_pick (hr.mono (by decide)) hg (by rfl) (pa_cons (pv 0) (pa_cons pe_int pa_nil)))) (pa_cons (pe_op op_mul (pv 5) (pv 9)) pa_nil))) (pg_tup rfl (pgs_cons (pg_name (i := 10) nd rfl (by first | exact Or.inl rfl | exact Or.inr rfl)) (pgs_cons (pg_name (i := 11) nd rfl (by first | exact Or.inl rfl | exact Or.inr rfl)) pgs_nil))))
    (pss_cons (ps_setLc (i := 12) (own := [("_law_day", 13)]) (g := (gName 13)) (tt := (tB (tCall sp_z_has [] E0 (tCons (tVar 1) (tCons (tVar 13) tNil))))) rfl nd rfl rfl (sw_true rfl rfl rfl (by decide +kernel)) (pi_range1 (by rfl) Tx.range (pa_cons (pv 10) pa_nil)) (blkOk_by (own := [("_law_day", 13)]) (N := n_z_set_wide) (sc := defScope s_z_set_wide) (by decide +kernel)) (fun _ _ _ _ _ => (pg_name (i := 13) nd rfl (by first | exact Or.inl rfl | exact Or.inr rfl))) (fun _ _ _ _ _ => (pts_one (pt_val (pe_callC c_z_has (hr.mono (by decide)) (by rfl) (pa_cons (pv 1) (pa_cons (pv 13) pa_nil)))))) (fun _ _ _ _ _ => (pv 13)))
    (pss_one (ps_ret (pe_tup (pa_cons (pv 12) (pa_cons (pv 10) (pa_cons (pv 11) (pa_cons (pe_lc (own := [("_law_place", 14)]) (g := (gName 14)) (tt := (tB (tCall sp_z_has [] E0 (tCons (tVar 1) (tCons (tOp rAdd (tVar 10) (tVar 14)) tNil))))) rfl nd (pi_range1 (by rfl) Tx.range (pa_cons (pv 11) pa_nil)) (blkOk_by (own := [("_law_place", 14)]) (N := n_z_set_wide) (sc := defScope s_z_set_wide) (by decide +kernel)) (fun _ _ _ _ _ => (pg_name (i := 14) nd rfl (by first | exact Or.inl rfl | exact Or.inr rfl))) (fun _ _ _ _ _ => (pts_one (pt_val (pe_callC c_z_has (hr.mono (by decide)) (by rfl) (pa_cons (pv 1) (pa_cons (pe_op op_add (pv 10) (pv 14)) pa_nil)))))) (fun _ _ _ _ _ => (pv 14))) pa_nil)))))))))))))
abbrev s_z_sums_right : Stmt := topS 69
abbrev n_z_sums_right : List Str := ["_law_one", "_law_two", "_law_same", "_law_lines", "_law_rests", "_law_common", "_law_whole", "_law_place", "_law_told", "_law_due"]
abbrev p_z_sums_right : List Str := ["_law_one", "_law_two"]
theorem sc_z_sums_right : FnScope n_z_sums_right p_z_sums_right (defScope s_z_sums_right) := ⟨rfl, rfl, rfl, by decide +kernel, rfl, by decide +kernel, by decide +kernel⟩
theorem d_z_sums_right {P : Program} {w : World} {K : PySem.W.Frag} {mg : Str → Option Value} {base : Heap} (Tx : Txt mg) (c_both : Callee P w K mg base 6 "both" p_both sp_both) (c_but : Callee P w K mg base 6 "but" p_but sp_but) (c_counts : Callee P w K mg base 5 "counts" p_counts sp_counts) (c_either : Callee P w K mg base 6 "either" p_either sp_either) (c_first_less : Callee P w K mg base 5 "first_less" p_first_less sp_first_less) (c_least_set : Callee P w K mg base 6 "least_set" p_least_set sp_least_set) (c_others : Callee P w K mg base 6 "others" p_others sp_others) (c_plus : Callee P w K mg base 5 "plus" p_plus sp_plus) {f : Addr} {cdv : Value} {A : Around} {outer : List Env} {s : Shared} {H : Hp} {E : XK} (hr : Room 6 (A.deeper (envOfC "_law_dl_sums_right" (defScope s_z_sums_right) s.heap.objs.size f cdv))) (hg : (A.deeper (envOfC "_law_dl_sums_right" (defScope s_z_sums_right) s.heap.objs.size f cdv)).guards = some []) :
    PSs (cxOf CX0 P w K mg base n_z_sums_right "_law_dl_sums_right" (defScope s_z_sums_right) f cdv A outer s H E).nox (defBody s_z_sums_right) (t_z_sums_right K) :=
  have nd := sc_z_sums_right.nd
  (pss_cons (ps_set (i := 2) nd rfl (by first | exact Or.inl rfl | exact Or.inr rfl) (pe_tup (pa_cons (pe_lst pa_nil) (pa_cons (pe_lst (pa_cons pe_int pa_nil)) (pa_cons pe_int pa_nil)))))
    (pss_cons (ps_par (i := 3) (j := 4) (by rfl) nd rfl rfl (by decide) rfl rfl (pa_cons (pe_lst (pa_cons (pe_callC c_counts (hr.mono (by decide)) (by rfl) (pa_cons (pv 0) pa_nil)) (pa_cons (pe_callC c_counts (hr.mono (by decide)) (by rfl) (pa_cons (pv 1) pa_nil)) pa_nil))) (pa_cons (pe_lst (pa_cons (pe_callC c_but (hr.mono (by decide)) (by rfl) (pa_cons (pv 0) (pa_cons (pv 1) pa_nil))) (pa_cons (pe_callC c_but (hr.mono (by decide)) (by rfl) (pa_cons (pv 1) (pa_cons (pv 0) pa_nil))) pa_nil))) pa_nil)) (by rfl))
    (pss_cons (ps_par (i := 5) (j := 6) (by rfl) nd rfl rfl (by decide) rfl rfl (pa_cons (pe_callC c_both (hr.mono (by decide)) (by rfl) (pa_cons (pv 0) (pa_cons (pv 1) pa_nil))) (pa_cons (pe_callC c_either (hr.mono (by decide)) (by rfl) (pa_cons (pv 0) (pa_cons (pv 1) pa_nil))) pa_nil)) (by rfl))
    (pss_cons (ps_if (pt_cmpR op_ne (pe_callB (call_reprD hg hr.units) (by rfl) Tx.repr (by decide +kernel) (pa_cons (pe_callC c_plus (hr.mono (by decide)) (by rfl) (pa_cons (pe_callC c_counts (hr.mono (by decide)) (by rfl) (pa_cons (pv 6) pa_nil)) (pa_cons (pe_callC c_counts (hr.mono (by decide)) (by rfl) (pa_cons (pv 5) pa_nil)) pa_nil))) pa_nil)) (pe_callB (call_reprD hg hr.units) (by rfl) Tx.repr (by decide +kernel) (pa_cons (pe_callC c_plus (hr.mono (by decide)) (by rfl) (pa_cons (pe_ix ix_list (pv 3) pe_int (fun _ _ => rfl)) (pa_cons (pe_ix ix_list (pv 3) pe_int (fun _ _ => rfl)) pa_nil))) pa_nil)) (nomark _)) (pss_one (ps_ret pe_bl)) pss_nil)
    (pss_cons (ps_for PassesOwn.never rfl (pi_enum (by rfl) Tx.enumerate (pa_cons (pe_lst (pa_cons (pv 0) (pa_cons (pv 1) pa_nil))) pa_nil)) (pg_tup rfl (pgs_cons (pg_name (i := 7) nd rfl (by first | exact Or.inl rfl | exact Or.inr rfl)) (pgs_cons (pg_name (i := 8) nd rfl (by first | exact Or.inl rfl | exact Or.inr rfl)) pgs_nil)))
    (pss_cons (ps_if (pt_cmpR op_ne (pe_callB (call_reprD hg hr.units) (by rfl) Tx.repr (by decide +kernel) (pa_cons (pe_callC c_plus (hr.mono (by decide)) (by rfl) (pa_cons (pe_callC c_counts (hr.mono (by decide)) (by rfl) (pa_cons (pe_ix ix_list (pv 4) (pv 7) (fun _ _ => rfl)) pa_nil)) (pa_cons (pe_callC c_counts (hr.mono (by decide)) (by rfl) (pa_cons (pv 5) pa_nil)) pa_nil))) pa_nil)) (pe_callB (call_reprD hg hr.units) (by rfl) Tx.repr (by decide +kernel) (pa_cons (pe_ix ix_list (pv 3) (pv 7) (fun _ _ => rfl)) pa_nil)) (nomark _)) (pss_one (ps_ret pe_bl)) pss_nil)
    (pss_cons (ps_if (pt_cmpR op_ne (pe_callB (call_reprD hg hr.units) (by rfl) Tx.repr (by decide +kernel) (pa_cons (pe_callC c_plus (hr.mono (by decide)) (by rfl) (pa_cons (pe_ix ix_list (pv 3) (pv 7) (fun _ _ => rfl)) (pa_cons (pe_callC c_counts (hr.mono (by decide)) (by rfl) (pa_cons (pe_callC c_others (hr.mono (by decide)) (by rfl) (pa_cons (pv 8) pa_nil)) pa_nil)) pa_nil))) pa_nil)) (pe_callB (call_reprD hg hr.units) (by rfl) Tx.repr (by decide +kernel) (pa_cons (pv 2) pa_nil)) (nomark _)) (pss_one (ps_ret pe_bl)) pss_nil)
    (pss_cons (ps_set (i := 9) nd rfl (by first | exact Or.inl rfl | exact Or.inr rfl) (pe_callC c_least_set (hr.mono (by decide)) (by rfl) (pa_cons (pv 8) pa_nil)))
    (pss_one (ps_if (pt_cmpR op_ne (pe_callB (call_reprD hg hr.units) (by rfl) Tx.repr (by decide +kernel) (pa_cons (pe_lst (pa_cons (pe_callC c_others (hr.mono (by decide)) (by rfl) (pa_cons (pe_callC c_others (hr.mono (by decide)) (by rfl) (pa_cons (pv 8) pa_nil)) pa_nil)) (pa_cons (pe_callC c_either (hr.mono (by decide)) (by rfl) (pa_cons (pv 5) (pa_cons (pe_ix ix_list (pv 4) (pv 7) (fun _ _ => rfl)) pa_nil))) pa_nil))) pa_nil)) (pe_callB (call_reprD hg hr.units) (by rfl) Tx.repr (by decide +kernel) (pa_cons (pe_lst (pa_cons (pv 9) (pa_cons (pv 9) pa_nil))) pa_nil)) (nomark _)) (pss_one (ps_ret pe_bl)) pss_nil))))))
    (pss_cons (ps_if (PW.pt (pw_or (pt_cmp (pc_notN (pe_callC c_first_less (hr.mono (by decide)) (by rfl) (pa_cons (pe_ix ix_list (pv 3) pe_int (fun _ _ => rfl)) (pa_cons (pe_callC c_counts (hr.mono (by decide)) (by rfl) (pa_cons (pv 5) pa_nil)) pa_nil)))) rfl) (pw_or1 (pt_cmp (pc_notN (pe_callC c_first_less (hr.mono (by decide)) (by rfl) (pa_cons (pe_callC c_counts (hr.mono (by decide)) (by rfl) (pa_cons (pv 6) pa_nil)) (pa_cons (pe_ix ix_list (pv 3) pe_int (fun _ _ => rfl)) pa_nil)))) rfl)))) (pss_one (ps_ret pe_bl)) pss_nil)
    (pss_one (ps_ret (pe_cmpR op_eq (pe_callB (call_reprD hg hr.units) (by rfl) Tx.repr (by decide +kernel) (pa_cons (pe_lst (pa_cons (pe_callC c_least_set (hr.mono (by decide)) (by rfl) (pa_cons (pv 6) pa_nil)) (pa_cons (pe_callC c_least_set (hr.mono (by decide)) (by rfl) (pa_cons (pv 5) pa_nil)) pa_nil))) pa_nil)) (pe_callB (call_reprD hg hr.units) (by rfl) Tx.repr (by decide +kernel) (pa_cons (pe_lst (pa_cons (pv 6) (pa_cons (pv 5) pa_nil))) pa_nil)) (nomark _))))))))))
abbrev s_z_turned_right : Stmt := topS 70
abbrev n_z_turned_right : List Str := ["_law_one", "_law_two", "_law_lefts", "_law_dues", "_law_unlike", "_law_apart_day"]
abbrev p_z_turned_right : List Str := ["_law_one", "_law_two"]
theorem sc_z_turned_right : FnScope n_z_turned_right p_z_turned_right (defScope s_z_turned_right) := ⟨rfl, rfl, rfl, by decide +kernel, rfl, by decide +kernel, by decide +kernel⟩
theorem d_z_turned_right {P : Program} {w : World} {K : PySem.W.Frag} {mg : Str → Option Value} {base : Heap} (Tx : Txt mg) (c_alike : Callee P w K mg base 5 "alike" p_alike sp_alike) (c_both : Callee P w K mg base 6 "both" p_both sp_both) (c_but : Callee P w K mg base 6 "but" p_but sp_but) (c_counts : Callee P w K mg base 5 "counts" p_counts sp_counts) (c_either : Callee P w K mg base 6 "either" p_either sp_either) (c_first_apart : Callee P w K mg base 5 "first_apart" p_first_apart sp_first_apart) (c_first_unlike : Callee P w K mg base 5 "first_unlike" p_first_unlike sp_first_unlike) (c_least_set : Callee P w K mg base 6 "least_set" p_least_set sp_least_set) (c_meeting : Callee P w K mg base 5 "meeting" p_meeting sp_meeting) (c_next_day : Callee P w K mg base 4 "next_day" p_next_day sp_next_day) (c_others : Callee P w K mg base 6 "others" p_others sp_others) {f : Addr} {cdv : Value} {A : Around} {outer : List Env} {s : Shared} {H : Hp} {E : XK} (hr : Room 6 (A.deeper (envOfC "_law_dl_turned_right" (defScope s_z_turned_right) s.heap.objs.size f cdv))) (hg : (A.deeper (envOfC "_law_dl_turned_right" (defScope s_z_turned_right) s.heap.objs.size f cdv)).guards = some []) :
    PSs (cxOf CX0 P w K mg base n_z_turned_right "_law_dl_turned_right" (defScope s_z_turned_right) f cdv A outer s H E).nox (defBody s_z_turned_right) (t_z_turned_right K) :=
  have nd := sc_z_turned_right.nd
  (pss_cons (ps_set (i := 2) nd rfl (by first | exact Or.inl rfl | exact Or.inr rfl) (pe_lst (pa_cons (pe_callC c_others (hr.mono (by decide)) (by rfl) (pa_cons (pv 0) pa_nil)) (pa_cons (pe_callC c_others (hr.mono (by decide)) (by rfl) (pa_cons (pv 1) pa_nil)) pa_nil))))
    (pss_cons (ps_set (i := 3) nd rfl (by first | exact Or.inl rfl | exact Or.inr rfl) (pe_lst (pa_cons (pe_callC c_both (hr.mono (by decide)) (by rfl) (pa_cons (pe_ix ix_list (pv 2) pe_int (fun _ _ => rfl)) (pa_cons (pe_ix ix_list (pv 2) pe_int (fun _ _ => rfl)) pa_nil))) (pa_cons (pe_callC c_either (hr.mono (by decide)) (by rfl) (pa_cons (pe_ix ix_list (pv 2) pe_int (fun _ _ => rfl)) (pa_cons (pe_ix ix_list (pv 2) pe_int (fun _ _ => rfl)) pa_nil))) pa_nil))))
    (pss_cons (ps_if (pt_cmpR op_ne (pe_callB (call_reprD hg hr.units) (by rfl) Tx.repr (by decide +kernel) (pa_cons (pe_lst (pa_cons (pe_callC c_others (hr.mono (by decide)) (by rfl) (pa_cons (pe_callC c_either (hr.mono (by decide)) (by rfl) (pa_cons (pv 0) (pa_cons (pv 1) pa_nil))) pa_nil)) (pa_cons (pe_callC c_others (hr.mono (by decide)) (by rfl) (pa_cons (pe_callC c_both (hr.mono (by decide)) (by rfl) (pa_cons (pv 0) (pa_cons (pv 1) pa_nil))) pa_nil)) pa_nil))) pa_nil)) (pe_callB (call_reprD hg hr.units) (by rfl) Tx.repr (by decide +kernel) (pa_cons (pv 3) pa_nil)) (nomark _)) (pss_one (ps_ret pe_bl)) pss_nil)
    (pss_cons (ps_if (pt_cmpR op_ne (pe_callB (call_reprD hg hr.units) (by rfl) Tx.repr (by decide +kernel) (pa_cons (pe_lst (pa_cons (pe_callC c_but (hr.mono (by decide)) (by rfl) (pa_cons (pv 0) (pa_cons (pv 1) pa_nil))) (pa_cons (pe_callC c_but (hr.mono (by decide)) (by rfl) (pa_cons (pe_ix ix_list (pv 2) pe_int (fun _ _ => rfl)) (pa_cons (pe_ix ix_list (pv 2) pe_int (fun _ _ => rfl)) pa_nil))) pa_nil))) pa_nil)) (pe_callB (call_reprD hg hr.units) (by rfl) Tx.repr (by decide +kernel) (pa_cons (pe_lst (pa_cons (pe_callC c_both (hr.mono (by decide)) (by rfl) (pa_cons (pv 0) (pa_cons (pe_ix ix_list (pv 2) pe_int (fun _ _ => rfl)) pa_nil))) (pa_cons (pe_callC c_but (hr.mono (by decide)) (by rfl) (pa_cons (pv 0) (pa_cons (pv 1) pa_nil))) pa_nil))) pa_nil)) (nomark _)) (pss_one (ps_ret pe_bl)) pss_nil)
    (pss_cons (ps_par (i := 4) (j := 5) (by rfl) nd rfl rfl (by decide) rfl rfl (pa_cons (pe_callC c_first_unlike (hr.mono (by decide)) (by rfl) (pa_cons (pe_callC c_counts (hr.mono (by decide)) (by rfl) (pa_cons (pv 0) pa_nil)) (pa_cons (pe_callC c_counts (hr.mono (by decide)) (by rfl) (pa_cons (pv 1) pa_nil)) pa_nil))) (pa_cons (pe_callC c_first_apart (hr.mono (by decide)) (by rfl) (pa_cons (pv 0) (pa_cons (pv 1) pa_nil))) pa_nil)) (by rfl))
    (pss_cons (ps_if (pt_cmpR op_ne (pe_callB (call_reprD hg hr.units) (by rfl) Tx.repr (by decide +kernel) (pa_cons (pv 5) pa_nil)) (pe_callB (call_reprD hg hr.units) (by rfl) Tx.repr (by decide +kernel) (pa_cons (pe_ifExp (pt_cmp (pc_isN (pv 4)) rfl) pe_non (pe_op op_sub (pv 4) pe_int)) pa_nil)) (nomark _)) (pss_one (ps_ret pe_bl)) pss_nil)
    (pss_cons (ps_if (pt_cmpR op_ne (pe_callC c_alike (hr.mono (by decide)) (by rfl) (pa_cons (pe_callC c_counts (hr.mono (by decide)) (by rfl) (pa_cons (pv 0) pa_nil)) (pa_cons (pe_callC c_counts (hr.mono (by decide)) (by rfl) (pa_cons (pv 1) pa_nil)) pa_nil))) (pe_cmpR op_eq (pe_callB (call_reprD hg hr.units) (by rfl) Tx.repr (by decide +kernel) (pa_cons (pe_callC c_least_set (hr.mono (by decide)) (by rfl) (pa_cons (pv 0) pa_nil)) pa_nil)) (pe_callB (call_reprD hg hr.units) (by rfl) Tx.repr (by decide +kernel) (pa_cons (pe_callC c_least_set (hr.mono (by decide)) (by rfl) (pa_cons (pv 1) pa_nil)) pa_nil)) (nomark _)) (nomark _)) (pss_one (ps_ret pe_bl)) pss_nil)
    (pss_one (ps_ret (pe_cmpR op_eq (pe_callB (call_reprD hg hr.units) (by rfl) Tx.repr (by decide +kernel) (pa_cons (pe_callC c_meeting (hr.mono (by decide)) (by rfl) (pa_cons (pv 0) (pa_cons (pv 1) pa_nil))) pa_nil)) (pe_callB (call_reprD hg hr.units) (by rfl) Tx.repr (by decide +kernel) (pa_cons (pe_callC c_next_day (hr.mono (by decide)) (by rfl) (pa_cons (pe_callC c_both (hr.mono (by decide)) (by rfl) (pa_cons (pv 0) (pa_cons (pv 1) pa_nil))) (pa_cons pe_int pa_nil))) pa_nil)) (nomark _)))))))))))
abbrev s_z_moved_right : Stmt := topS 71
abbrev n_z_moved_right : List Str := ["_law_sack", "_law_told", "_law_days", "_law_shift", "_law_line", "_law_up", "_law_down", "_law_ahead", "_law_low", "_law_day"]
abbrev p_z_moved_right : List Str := ["_law_sack", "_law_told"]
theorem sc_z_moved_right : FnScope n_z_moved_right p_z_moved_right (defScope s_z_moved_right) := ⟨rfl, rfl, rfl, by decide +kernel, rfl, by decide +kernel, by decide +kernel⟩
theorem d_z_moved_right {P : Program} {w : World} {K : PySem.W.Frag} {mg : Str → Option Value} {base : Heap} (Tx : Txt mg) (c_z_has : Callee P w K mg base 1 "_law_dl_has" p_z_has sp_z_has) (c_z_pick : CalleeG P w K mg base 1 "_law_dl_pick" p_z_pick sp_z_pick) (c_counts : Callee P w K mg base 5 "counts" p_counts sp_counts) (c_either : Callee P w K mg base 6 "either" p_either sp_either) (c_joined : Callee P w K mg base 5 "joined" p_joined sp_joined) (c_least_set : Callee P w K mg base 6 "least_set" p_least_set sp_least_set) (c_moved : Callee P w K mg base 6 "moved" p_moved sp_moved) (c_plus : Callee P w K mg base 5 "plus" p_plus sp_plus) (c_set_of : Callee P w K mg base 2 "set_of" p_set_of sp_set_of) (c_value : Callee P w K mg base 4 "value" p_value sp_value) {f : Addr} {cdv : Value} {A : Around} {outer : List Env} {s : Shared} {H : Hp} {E : XK} (hr : Room 6 (A.deeper (envOfC "_law_dl_moved_right" (defScope s_z_moved_right) s.heap.objs.size f cdv))) (hg : (A.deeper (envOfC "_law_dl_moved_right" (defScope s_z_moved_right) s.heap.objs.size f cdv)).guards = some []) :
    PSs (cxOf CX0 P w K mg base n_z_moved_right "_law_dl_moved_right" (defScope s_z_moved_right) f cdv A outer s H E).nox (defBody s_z_moved_right) (t_z_moved_right K) :=
  have nd := sc_z_moved_right.nd
  (pss_cons (ps_set (i := 2) nd rfl (by first | exact Or.inl rfl | exact Or.inr rfl) (pe_callG c_z_pick (hr.mono (by decide)) hg (by rfl) (pa_cons (pv 0) (pa_cons pe_int pa_nil))))
    (pss_cons (ps_par (i := 3) (j := 4) (by rfl) nd rfl rfl (by decide) rfl rfl (pa_cons (pe_tup (pa_cons (pe_lst pa_nil) (pa_cons (pe_lst (pa_cons (pv 2) pa_nil)) (pa_cons pe_int pa_nil)))) (pa_cons (pe_callC c_counts (hr.mono (by decide)) (by rfl) (pa_cons (pv 1) pa_nil)) pa_nil)) (by rfl))
    (pss_cons (ps_par (i := 5) (j := 6) (by rfl) nd rfl rfl (by decide) rfl rfl (pa_cons (pe_callC c_moved (hr.mono (by decide)) (by rfl) (pa_cons (pv 1) (pa_cons (pv 2) pa_nil))) (pa_cons (pe_callC c_moved (hr.mono (by decide)) (by rfl) (pa_cons (pv 1) (pa_cons (pe_op op_sub pe_int (pv 2)) pa_nil))) pa_nil)) (by rfl))
    (pss_cons (ps_if (PW.pt (pw_or (pt_cmpR op_ne (pe_callB (call_reprD hg hr.units) (by rfl) Tx.repr (by decide +kernel) (pa_cons (pe_callC c_joined (hr.mono (by decide)) (by rfl) (pa_cons (pv 3) (pa_cons (pe_callC c_counts (hr.mono (by decide)) (by rfl) (pa_cons (pv 5) pa_nil)) pa_nil))) pa_nil)) (pe_callB (call_reprD hg hr.units) (by rfl) Tx.repr (by decide +kernel) (pa_cons (pv 4) pa_nil)) (nomark _)) (pw_or1 (pt_cmpR op_ne (pe_callC c_value (hr.mono (by decide)) (by rfl) (pa_cons (pe_callC c_counts (hr.mono (by decide)) (by rfl) (pa_cons (pv 5) pa_nil)) (pa_cons (pv 2) pa_nil))) pe_int (nomark _))))) (pss_one (ps_ret pe_bl)) pss_nil)
    (pss_cons (ps_set (i := 7) nd rfl (by first | exact Or.inl rfl | exact Or.inr rfl) (pe_tup (pa_cons (pe_lst pa_nil) (pa_cons (pe_lst (pa_cons (pe_callC c_value (hr.mono (by decide)) (by rfl) (pa_cons (pv 4) (pa_cons (pv 2) pa_nil))) pa_nil)) (pa_cons pe_int pa_nil)))))
    (pss_cons (ps_if (pt_cmpR op_ne (pe_callB (call_reprD hg hr.units) (by rfl) Tx.repr (by decide +kernel) (pa_cons (pe_callC c_plus (hr.mono (by decide)) (by rfl) (pa_cons (pe_callC c_counts (hr.mono (by decide)) (by rfl) (pa_cons (pv 6) pa_nil)) (pa_cons (pv 7) pa_nil))) pa_nil)) (pe_callB (call_reprD hg hr.units) (by rfl) Tx.repr (by decide +kernel) (pa_cons (pe_callC c_joined (hr.mono (by decide)) (by rfl) (pa_cons (pv 3) (pa_cons (pv 4) pa_nil))) pa_nil)) (nomark _)) (pss_one (ps_ret pe_bl)) pss_nil)
    (pss_cons (ps_if (pt_cmpR op_ne (pe_callB (call_reprD hg hr.units) (by rfl) Tx.repr (by decide +kernel) (pa_cons (pe_callC c_moved (hr.mono (by decide)) (by rfl) (pa_cons (pv 5) (pa_cons (pe_op op_sub pe_int (pv 2)) pa_nil))) pa_nil)) (pe_callB (call_reprD hg hr.units) (by rfl) Tx.repr (by decide +kernel) (pa_cons (pe_callC c_least_set (hr.mono (by decide)) (by rfl) (pa_cons (pv 1) pa_nil)) pa_nil)) (nomark _)) (pss_one (ps_ret pe_bl)) pss_nil)
    (pss_cons (ps_setLc (i := 8) (own := [("_law_day", 9)]) (g := (gName 9)) (tt := (tB (tCall sp_z_has [] E0 (tCons (tVar 1) (tCons (tVar 9) tNil))))) rfl nd rfl rfl (sw_true rfl rfl rfl (by decide +kernel)) (pi_range1 (by rfl) Tx.range (pa_cons (pv 2) pa_nil)) (blkOk_by (own := [("_law_day", 9)]) (N := n_z_moved_right) (sc := defScope s_z_moved_right) (by decide +kernel)) (fun _ _ _ _ _ => (pg_name (i := 9) nd rfl (by first | exact Or.inl rfl | exact Or.inr rfl))) (fun _ _ _ _ _ => (pts_one (pt_val (pe_callC c_z_has (hr.mono (by decide)) (by rfl) (pa_cons (pv 1) (pa_cons (pv 9) pa_nil)))))) (fun _ _ _ _ _ => (pv 9)))
    (pss_one (ps_ret (pe_cmpR op_eq (pe_callB (call_reprD hg hr.units) (by rfl) Tx.repr (by decide +kernel) (pa_cons (pe_callC c_either (hr.mono (by decide)) (by rfl) (pa_cons (pe_callC c_moved (hr.mono (by decide)) (by rfl) (pa_cons (pv 6) (pa_cons (pv 2) pa_nil))) (pa_cons (pe_callC c_set_of (hr.mono (by decide)) (by rfl) (pa_cons (pv 8) pa_nil)) pa_nil))) pa_nil)) (pe_callB (call_reprD hg hr.units) (by rfl) Tx.repr (by decide +kernel) (pa_cons (pe_callC c_least_set (hr.mono (by decide)) (by rfl) (pa_cons (pv 1) pa_nil)) pa_nil)) (nomark _))))))))))))
abbrev s_z_right : Stmt := topS 72
abbrev n_z_right : List Str := ["_law_sack", "_law_most", "_law_one", "_law_two", "_law_kept"]
abbrev p_z_right : List Str := ["_law_sack"]
theorem sc_z_right : FnScope n_z_right p_z_right (defScope s_z_right) := ⟨rfl, rfl, rfl, by decide +kernel, rfl, by decide +kernel, by decide +kernel⟩
theorem d_z_right {P : Program} {w : World} {K : PySem.W.Frag} {mg : Str → Option Value} {base : Heap} (Tx : Txt mg) (c_z_moved_right : CalleeG P w K mg base 7 "_law_dl_moved_right" p_z_moved_right sp_z_moved_right) (c_z_pick : CalleeG P w K mg base 1 "_law_dl_pick" p_z_pick sp_z_pick) (c_z_set : CalleeG P w K mg base 3 "_law_dl_set" p_z_set sp_z_set) (c_z_set_wide : CalleeG P w K mg base 2 "_law_dl_set_wide" p_z_set_wide sp_z_set_wide) (c_z_sums_right : CalleeG P w K mg base 7 "_law_dl_sums_right" p_z_sums_right sp_z_sums_right) (c_z_turned_right : CalleeG P w K mg base 7 "_law_dl_turned_right" p_z_turned_right sp_z_turned_right) {f : Addr} {cdv : Value} {A : Around} {outer : List Env} {s : Shared} {H : Hp} {E : XK} (hr : Room 7 (A.deeper (envOfC "_law_right" (defScope s_z_right) s.heap.objs.size f cdv))) (hg : (A.deeper (envOfC "_law_right" (defScope s_z_right) s.heap.objs.size f cdv)).guards = some []) :
    PSs (cxOf CX0 P w K mg base n_z_right "_law_right" (defScope s_z_right) f cdv A outer s H E).nox (defBody s_z_right) (t_z_right K) :=
  have nd := sc_z_right.nd
  (pss_cons (ps_set (i := 1) nd rfl (by first | exact Or.inl rfl | exact Or.inr rfl) (pe_ix ix_list (pe_lst (pa_cons pe_int (pa_cons pe_int pa_nil))) (pe_callG c_z_pick (hr.mono (by decide)) hg (by rfl) (pa_cons (pv 0) (pa_cons pe_int pa_nil))) (fun _ _ => rfl)))
    (pss_cons (ps_par (i := 2) (j := 3) (by rfl) nd rfl rfl (by decide) rfl rfl (pa_cons (pe_callG c_z_set (hr.mono (by decide)) hg (by rfl) (pa_cons (pv 0) (pa_cons (pv 1) pa_nil))) (pa_cons (pe_callG c_z_set (hr.mono (by decide)) hg (by rfl) (pa_cons (pv 0) (pa_cons (pv 1) pa_nil))) pa_nil)) (by rfl))
    (pss_cons (ps_if (pt_cmpR op_eq (pe_callG c_z_pick (hr.mono (by decide)) hg (by rfl) (pa_cons (pv 0) (pa_cons pe_int pa_nil))) pe_int (nomark _)) (pss_one (ps_set (i := 3) nd rfl (by first | exact Or.inl rfl | exact Or.inr rfl) (pe_callG c_z_set_wide (hr.mono (by decide)) hg (by rfl) (pa_cons (pv 0) (pa_cons (pv 2) (pa_cons pe_int pa_nil)))))) pss_nil)
    (pss_cons (ps_set (i := 4) nd rfl (by first | exact Or.inl rfl | exact Or.inr rfl) (pe_callB (call_reprD hg hr.units) (by rfl) Tx.repr (by decide +kernel) (pa_cons (pe_lst (pa_cons (pv 2) (pa_cons (pv 3) pa_nil))) pa_nil)))
    (pss_cons (ps_if (PW.pt (pw_or (pt_not (pt_val (pe_callG c_z_sums_right (hr.mono (by decide)) hg (by rfl) (pa_cons (pv 2) (pa_cons (pv 3) pa_nil))))) (pw_or1 (pt_not (pt_val (pe_callG c_z_turned_right (hr.mono (by decide)) hg (by rfl) (pa_cons (pv 2) (pa_cons (pv 3) pa_nil)))))))) (pss_one (ps_ret pe_bl)) pss_nil)
    (pss_one (ps_ret (pe_and (pe_callG c_z_moved_right (hr.mono (by decide)) hg (by rfl) (pa_cons (pv 0) (pa_cons (pv 2) pa_nil))) (pe_one (pe_cmpR op_eq (pe_callB (call_reprD hg hr.units) (by rfl) Tx.repr (by decide +kernel) (pa_cons (pe_lst (pa_cons (pv 2) (pa_cons (pv 3) pa_nil))) pa_nil)) (pv 4) (nomark _)))))))))))
abbrev s_law : Stmt := topS 73
abbrev n_law : List Str := ["_law_script", "_law_rank"]
abbrev p_law : List Str := ["_law_script"]
theorem sc_law : FnScope n_law p_law (defScope s_law) := ⟨rfl, rfl, rfl, by decide +kernel, rfl, by decide +kernel, by decide +kernel⟩
theorem d_law {P : Program} {w : World} {K : PySem.W.Frag} {mg : Str → Option Value} {base : Heap} (Tx : Txt mg) (c_z_sack : CalleeG P w K mg base 1 "_law_dl_sack" p_z_sack (sp_z_sack K)) (c_z_right : CalleeG P w K mg base 8 "_law_right" p_z_right sp_z_right) {f : Addr} {cdv : Value} {A : Around} {outer : List Env} {s : Shared} {H : Hp} {E : XK} (hr : Room 8 (A.deeper (envOfC "law" (defScope s_law) s.heap.objs.size f cdv))) (hg : (A.deeper (envOfC "law" (defScope s_law) s.heap.objs.size f cdv)).guards = some []) :
    PSs (cxOf CX0 P w K mg base n_law "law" (defScope s_law) f cdv A outer s H E).nox (defBody s_law) (t_law K) :=
  have nd := sc_law.nd
  (pss_cons (ps_for PassesOwn.never rfl (pi_range1 (by rfl) Tx.range (pa_cons (pe_callB (call_max2 rfl) (by rfl) Tx.max (by decide +kernel) (pa_cons pe_int (pa_cons (pe_callB (call_min2 rfl) (by rfl) Tx.min (by decide +kernel) (pa_cons pe_int (pa_cons (pe_callB call_len_seq (by rfl) Tx.len PySem.boot_len (pa_cons (pv 0) pa_nil)) pa_nil))) pa_nil))) pa_nil)) (pg_name (i := 1) nd rfl (by first | exact Or.inl rfl | exact Or.inr rfl))
    (pss_one (ps_if (pt_not (pt_val (pe_callG c_z_right (hr.mono (by decide)) hg (by rfl) (pa_cons (pe_callG c_z_sack (hr.mono (by decide)) hg (by rfl) (pa_cons (pv 0) (pa_cons (pv 1) pa_nil))) pa_nil)))) (pss_one (ps_ret pe_bl)) pss_nil)))
    (pss_one (ps_ret pe_bl)))
end LD
/-! Asm: every def keeps its promise (the chain is printed by gen.py). -/
namespace LD
open PySem PySem.Spec PyProof.Rows L2
theorem lenR {S : List D → D → Prop} {n : Nat} (h : ∀ ds r, S ds r → ds.length = n) (vs : List V) (H : Hp) (Q : VK) (E : XK) (hs : spR S vs H Q E) : vs.length = n := by
  obtain ⟨ds, r, F, _, rs, hd, _⟩ := hs
  rw [rs.length]
  exact h ds r hd
theorem lenM {S : SM} {n : Nat} (h : ∀ ds acc R, S ds acc R → ds.length = n) (vs : List V) (H : Hp) (Q : VK) (E : XK) (hs : spM S vs H Q E) : vs.length = n + 1 := by
  obtain ⟨p, ws, F, acc, ds, R, rfl, _, rs, hd, _⟩ := hs
  rw [List.length_cons, rs.length, h ds acc R hd]
/-- every def that the law reaches stands under its name -/
structure Sts (K : PySem.W.Frag) (mg : Str → Option Value) : Prop where
  never_falls : Stands K mg "never_falls" "never_falls" s_never_falls p_never_falls
  always_rises : Stands K mg "always_rises" "always_rises" s_always_rises p_always_rises
  need_number : Stands K mg "need_number" "need_number" s_need_number p_need_number
  common_divisor : Stands K mg "common_divisor" "common_divisor" s_common_divisor p_common_divisor
  prime_parts : Stands K mg "prime_parts" "prime_parts" s_prime_parts p_prime_parts
  number_at : Stands K mg "number_at" "number_at" s_number_at p_number_at
  first_numbers : Stands K mg "first_numbers" "first_numbers" s_first_numbers p_first_numbers
  comes_again : Stands K mg "comes_again" "comes_again" s_comes_again p_comes_again
  set_row : Stands K mg "set_row" "set_row" s_set_row p_set_row
  set_of_days : Stands K mg "set_of_days" "set_of_days" s_set_of_days p_set_of_days
  next_of : Stands K mg "next_of" "next_of" s_next_of p_next_of
  first_at_least : Stands K mg "first_at_least" "first_at_least" s_first_at_least p_first_at_least
  risen : Stands K mg "risen" "risen" s_risen p_risen
  z_sack : Stands K mg "_law_dl_sack" "_law_dl_sack" s_z_sack p_z_sack
  z_pick : Stands K mg "_law_dl_pick" "_law_dl_pick" s_z_pick p_z_pick
  z_has : Stands K mg "_law_dl_has" "_law_dl_has" s_z_has p_z_has
  is_ladder : Stands K mg "is_ladder" "is_ladder" s_is_ladder p_is_ladder
  is_set : Stands K mg "is_set" "is_set" s_is_set p_is_set
  common_multiple : Stands K mg "common_multiple" "common_multiple" s_common_multiple p_common_multiple
  least_length : Stands K mg "least_length" "least_length" s_least_length p_least_length
  first_of_row : Stands K mg "first_of_row" "first_of_row" s_first_of_row p_first_of_row
  unlike_day : Stands K mg "unlike_day" "unlike_day" s_unlike_day p_unlike_day
  set_of : Stands K mg "set_of" "set_of" s_set_of p_set_of
  z_length : Stands K mg "_law_dl_length" "_law_dl_length" s_z_length p_z_length
  z_set_wide : Stands K mg "_law_dl_set_wide" "_law_dl_set_wide" s_z_set_wide p_z_set_wide
  need_ladder : Stands K mg "need_ladder" "need_ladder" s_need_ladder p_need_ladder
  need_set : Stands K mg "need_set" "need_set" s_need_set p_need_set
  least_way : Stands K mg "least_way" "least_way" s_least_way p_least_way
  common_way : Stands K mg "common_way" "common_way" s_common_way p_common_way
  common_rows : Stands K mg "common_rows" "common_rows" s_common_rows p_common_rows
  z_set : Stands K mg "_law_dl_set" "_law_dl_set" s_z_set p_z_set
  least_row : Stands K mg "least_row" "least_row" s_least_row p_least_row
  counts_of : Stands K mg "counts_of" "counts_of" s_counts_of p_counts_of
  joined_ladders : Stands K mg "joined_ladders" "joined_ladders" s_joined_ladders p_joined_ladders
  added_ladders : Stands K mg "added_ladders" "added_ladders" s_added_ladders p_added_ladders
  less_day : Stands K mg "less_day" "less_day" s_less_day p_less_day
  need_two_days : Stands K mg "need_two_days" "need_two" s_need_two_days p_need_two_days
  next_day : Stands K mg "next_day" "next_day" s_next_day p_next_day
  need_two_ladders : Stands K mg "need_two_ladders" "need_two" s_need_two_ladders p_need_two_ladders
  value : Stands K mg "value" "value" s_value p_value
  set_from : Stands K mg "set_from" "set_from" s_set_from p_set_from
  first_apart : Stands K mg "first_apart" "first_apart" s_first_apart p_first_apart
  meeting : Stands K mg "meeting" "meeting" s_meeting p_meeting
  counts : Stands K mg "counts" "counts" s_counts p_counts
  joined : Stands K mg "joined" "joined" s_joined p_joined
  plus : Stands K mg "plus" "plus" s_plus p_plus
  alike : Stands K mg "alike" "alike" s_alike p_alike
  first_unlike : Stands K mg "first_unlike" "first_unlike" s_first_unlike p_first_unlike
  first_less : Stands K mg "first_less" "first_less" s_first_less p_first_less
  least_set : Stands K mg "least_set" "least_set" s_least_set p_least_set
  both : Stands K mg "both" "both" s_both p_both
  either : Stands K mg "either" "either" s_either p_either
  but : Stands K mg "but" "but" s_but p_but
  others : Stands K mg "others" "others" s_others p_others
  moved : Stands K mg "moved" "moved" s_moved p_moved
  z_sums_right : Stands K mg "_law_dl_sums_right" "_law_dl_sums_right" s_z_sums_right p_z_sums_right
  z_turned_right : Stands K mg "_law_dl_turned_right" "_law_dl_turned_right" s_z_turned_right p_z_turned_right
  z_moved_right : Stands K mg "_law_dl_moved_right" "_law_dl_moved_right" s_z_moved_right p_z_moved_right
  z_right : Stands K mg "_law_right" "_law_right" s_z_right p_z_right
  law : Stands K mg "law" "law" s_law p_law
theorem chain {P : Program} {w : World} {K : PySem.W.Frag} {mg : Str → Option Value} {base : Heap} (Tx : Txt mg) (S : Sts K mg) {f : Addr} {fd : FuncData} (F : Fun K "law" "law" s_law f fd) : FnG P w K mg base 9 f fd p_law (sp_law K) := by
  have c_never_falls : Callee P w K mg base 1 "never_falls" p_never_falls sp_never_falls := callee_of S.never_falls sc_never_falls (by intro ds r h; first | (obtain ⟨_, rfl, _⟩ := h; rfl) | (obtain ⟨_, _, rfl, _⟩ := h; rfl) | (obtain ⟨_, _, _, rfl, _⟩ := h; rfl) | (obtain ⟨_, _, _, _, ⟨rfl, _⟩ | ⟨_, rfl, _⟩⟩ := h <;> rfl)) (fun _ _ _ _ _ _ _ hr => d_never_falls (Tx := Tx) hr) w_never_falls
  have c_always_rises : Callee P w K mg base 1 "always_rises" p_always_rises sp_always_rises := callee_of S.always_rises sc_always_rises (by intro ds r h; first | (obtain ⟨_, rfl, _⟩ := h; rfl) | (obtain ⟨_, _, rfl, _⟩ := h; rfl) | (obtain ⟨_, _, _, rfl, _⟩ := h; rfl) | (obtain ⟨_, _, _, _, ⟨rfl, _⟩ | ⟨_, rfl, _⟩⟩ := h <;> rfl)) (fun _ _ _ _ _ _ _ hr => d_always_rises (Tx := Tx) hr) w_always_rises
  have c_need_number : Callee P w K mg base 1 "need_number" p_need_number sp_need_number := callee_of S.need_number sc_need_number (by intro ds r h; first | (obtain ⟨_, rfl, _⟩ := h; rfl) | (obtain ⟨_, _, rfl, _⟩ := h; rfl) | (obtain ⟨_, _, _, rfl, _⟩ := h; rfl) | (obtain ⟨_, _, _, _, ⟨rfl, _⟩ | ⟨_, rfl, _⟩⟩ := h <;> rfl)) (fun _ _ _ _ _ _ _ hr => d_need_number hr) w_need_number
  have c_common_divisor : Callee P w K mg base 1 "common_divisor" p_common_divisor sp_common_divisor := callee_of S.common_divisor sc_common_divisor (by intro ds r h; first | (obtain ⟨_, rfl, _⟩ := h; rfl) | (obtain ⟨_, _, rfl, _⟩ := h; rfl) | (obtain ⟨_, _, _, rfl, _⟩ := h; rfl) | (obtain ⟨_, _, _, _, ⟨rfl, _⟩ | ⟨_, rfl, _⟩⟩ := h <;> rfl)) (fun _ _ _ _ _ _ _ hr => d_common_divisor hr) w_common_divisor
  have c_prime_parts : Callee P w K mg base 1 "prime_parts" p_prime_parts sp_prime_parts := callee_of S.prime_parts sc_prime_parts (by intro ds r h; first | (obtain ⟨_, rfl, _⟩ := h; rfl) | (obtain ⟨_, _, rfl, _⟩ := h; rfl) | (obtain ⟨_, _, _, rfl, _⟩ := h; rfl) | (obtain ⟨_, _, _, _, ⟨rfl, _⟩ | ⟨_, rfl, _⟩⟩ := h <;> rfl)) (fun _ _ _ _ _ _ _ hr => d_prime_parts hr) w_prime_parts
  have c_number_at : Callee P w K mg base 1 "number_at" p_number_at sp_number_at := callee_of S.number_at sc_number_at (by intro ds r h; first | (obtain ⟨_, rfl, _⟩ := h; rfl) | (obtain ⟨_, _, rfl, _⟩ := h; rfl) | (obtain ⟨_, _, _, rfl, _⟩ := h; rfl) | (obtain ⟨_, _, _, _, ⟨rfl, _⟩ | ⟨_, rfl, _⟩⟩ := h <;> rfl)) (fun _ _ _ _ _ _ _ hr => d_number_at (Tx := Tx) hr) w_number_at
  have c_first_numbers : Callee P w K mg base 1 "first_numbers" p_first_numbers sp_first_numbers := callee_of S.first_numbers sc_first_numbers (by intro ds r h; first | (obtain ⟨_, rfl, _⟩ := h; rfl) | (obtain ⟨_, _, rfl, _⟩ := h; rfl) | (obtain ⟨_, _, _, rfl, _⟩ := h; rfl) | (obtain ⟨_, _, _, _, ⟨rfl, _⟩ | ⟨_, rfl, _⟩⟩ := h <;> rfl)) (fun _ _ _ _ _ _ _ hr => d_first_numbers (Tx := Tx) hr) w_first_numbers
  have c_comes_again : Callee P w K mg base 1 "comes_again" p_comes_again sp_comes_again := callee_of S.comes_again sc_comes_again (by intro ds r h; first | (obtain ⟨_, rfl, _⟩ := h; rfl) | (obtain ⟨_, _, rfl, _⟩ := h; rfl) | (obtain ⟨_, _, _, rfl, _⟩ := h; rfl) | (obtain ⟨_, _, _, _, ⟨rfl, _⟩ | ⟨_, rfl, _⟩⟩ := h <;> rfl)) (fun _ _ _ _ _ _ _ hr => d_comes_again (Tx := Tx) hr) w_comes_again
  have c_set_row : Callee P w K mg base 1 "set_row" p_set_row sp_set_row := callee_of S.set_row sc_set_row (by intro ds r h; first | (obtain ⟨_, rfl, _⟩ := h; rfl) | (obtain ⟨_, _, rfl, _⟩ := h; rfl) | (obtain ⟨_, _, _, rfl, _⟩ := h; rfl) | (obtain ⟨_, _, _, _, ⟨rfl, _⟩ | ⟨_, rfl, _⟩⟩ := h <;> rfl)) (fun _ _ _ _ _ _ _ hr => d_set_row (Tx := Tx) hr) w_set_row
  have c_set_of_days : Callee P w K mg base 1 "set_of_days" p_set_of_days sp_set_of_days := callee_of S.set_of_days sc_set_of_days (by intro ds r h; first | (obtain ⟨_, rfl, _⟩ := h; rfl) | (obtain ⟨_, _, rfl, _⟩ := h; rfl) | (obtain ⟨_, _, _, rfl, _⟩ := h; rfl) | (obtain ⟨_, _, _, _, ⟨rfl, _⟩ | ⟨_, rfl, _⟩⟩ := h <;> rfl)) (fun _ _ _ _ _ _ _ hr => d_set_of_days (Tx := Tx) hr) w_set_of_days
  have c_next_of : Callee P w K mg base 1 "next_of" p_next_of sp_next_of := callee_of S.next_of sc_next_of (by intro ds r h; first | (obtain ⟨_, rfl, _⟩ := h; rfl) | (obtain ⟨_, _, rfl, _⟩ := h; rfl) | (obtain ⟨_, _, _, rfl, _⟩ := h; rfl) | (obtain ⟨_, _, _, _, ⟨rfl, _⟩ | ⟨_, rfl, _⟩⟩ := h <;> rfl)) (fun _ _ _ _ _ _ _ hr => d_next_of (Tx := Tx) hr) w_next_of
  have c_first_at_least : Callee P w K mg base 1 "first_at_least" p_first_at_least sp_first_at_least := callee_of S.first_at_least sc_first_at_least (by intro ds r h; first | (obtain ⟨_, rfl, _⟩ := h; rfl) | (obtain ⟨_, _, rfl, _⟩ := h; rfl) | (obtain ⟨_, _, _, rfl, _⟩ := h; rfl) | (obtain ⟨_, _, _, _, ⟨rfl, _⟩ | ⟨_, rfl, _⟩⟩ := h <;> rfl)) (fun _ _ _ _ _ _ _ hr => d_first_at_least (Tx := Tx) hr) w_first_at_least
  have c_risen : Callee P w K mg base 1 "risen" p_risen sp_risen := callee_of S.risen sc_risen (by intro ds r h; first | (obtain ⟨_, rfl, _⟩ := h; rfl) | (obtain ⟨_, _, rfl, _⟩ := h; rfl) | (obtain ⟨_, _, _, rfl, _⟩ := h; rfl) | (obtain ⟨_, _, _, _, ⟨rfl, _⟩ | ⟨_, rfl, _⟩⟩ := h <;> rfl)) (fun _ _ _ _ _ _ _ hr => d_risen (Tx := Tx) hr) w_risen
  have c_z_sack : CalleeG P w K mg base 1 "_law_dl_sack" p_z_sack (sp_z_sack K) := calleeG_of S.z_sack sc_z_sack (by rintro vs H Q E ⟨_, _, _, rfl, _⟩; rfl) (fun _ _ _ _ _ _ _ hr hg => d_z_sack (Tx := Tx) hr hg) (w_z_sack)
  have c_z_pick : CalleeG P w K mg base 1 "_law_dl_pick" p_z_pick sp_z_pick := calleeG_of S.z_pick sc_z_pick (lenM (S := S_z_pick) (n := 1) (by intro ds acc R h; first | (obtain ⟨rfl, _⟩ := h; rfl) | (obtain ⟨_, _, rfl, _⟩ := h; rfl))) (fun _ _ _ _ _ _ _ hr hg => d_z_pick (Tx := Tx) hr hg) (fun _ _ _ _ h => bodyM_of h w_z_pick)
  have c_z_has : Callee P w K mg base 1 "_law_dl_has" p_z_has sp_z_has := callee_of S.z_has sc_z_has (by intro ds r h; first | (obtain ⟨_, rfl, _⟩ := h; rfl) | (obtain ⟨_, _, rfl, _⟩ := h; rfl) | (obtain ⟨_, _, _, rfl, _⟩ := h; rfl) | (obtain ⟨_, _, _, _, ⟨rfl, _⟩ | ⟨_, rfl, _⟩⟩ := h <;> rfl)) (fun _ _ _ _ _ _ _ hr => d_z_has (Tx := Tx) hr) w_z_has
  have c_is_ladder : Callee P w K mg base 2 "is_ladder" p_is_ladder sp_is_ladder := callee_of S.is_ladder sc_is_ladder (by intro ds r h; first | (obtain ⟨_, rfl, _⟩ := h; rfl) | (obtain ⟨_, _, rfl, _⟩ := h; rfl) | (obtain ⟨_, _, _, rfl, _⟩ := h; rfl) | (obtain ⟨_, _, _, _, ⟨rfl, _⟩ | ⟨_, rfl, _⟩⟩ := h <;> rfl)) (fun _ _ _ _ _ _ _ hr => d_is_ladder (c_never_falls := c_never_falls) hr) w_is_ladder
  have c_is_set : Callee P w K mg base 2 "is_set" p_is_set sp_is_set := callee_of S.is_set sc_is_set (by intro ds r h; first | (obtain ⟨_, rfl, _⟩ := h; rfl) | (obtain ⟨_, _, rfl, _⟩ := h; rfl) | (obtain ⟨_, _, _, rfl, _⟩ := h; rfl) | (obtain ⟨_, _, _, _, ⟨rfl, _⟩ | ⟨_, rfl, _⟩⟩ := h <;> rfl)) (fun _ _ _ _ _ _ _ hr => d_is_set (c_always_rises := c_always_rises) hr) w_is_set
  have c_common_multiple : Callee P w K mg base 2 "common_multiple" p_common_multiple sp_common_multiple := callee_of S.common_multiple sc_common_multiple (by intro ds r h; first | (obtain ⟨_, rfl, _⟩ := h; rfl) | (obtain ⟨_, _, rfl, _⟩ := h; rfl) | (obtain ⟨_, _, _, rfl, _⟩ := h; rfl) | (obtain ⟨_, _, _, _, ⟨rfl, _⟩ | ⟨_, rfl, _⟩⟩ := h <;> rfl)) (fun _ _ _ _ _ _ _ hr => d_common_multiple (c_common_divisor := c_common_divisor) hr) w_common_multiple
  have c_least_length : Callee P w K mg base 2 "least_length" p_least_length sp_least_length := callee_of S.least_length sc_least_length (by intro ds r h; first | (obtain ⟨_, rfl, _⟩ := h; rfl) | (obtain ⟨_, _, rfl, _⟩ := h; rfl) | (obtain ⟨_, _, _, rfl, _⟩ := h; rfl) | (obtain ⟨_, _, _, _, ⟨rfl, _⟩ | ⟨_, rfl, _⟩⟩ := h <;> rfl)) (fun _ _ _ _ _ _ _ hr => d_least_length (Tx := Tx) (c_comes_again := c_comes_again) (c_prime_parts := c_prime_parts) hr) w_least_length
  have c_first_of_row : Callee P w K mg base 2 "first_of_row" p_first_of_row sp_first_of_row := callee_of S.first_of_row sc_first_of_row (by intro ds r h; first | (obtain ⟨_, rfl, _⟩ := h; rfl) | (obtain ⟨_, _, rfl, _⟩ := h; rfl) | (obtain ⟨_, _, _, rfl, _⟩ := h; rfl) | (obtain ⟨_, _, _, _, ⟨rfl, _⟩ | ⟨_, rfl, _⟩⟩ := h <;> rfl)) (fun _ _ _ _ _ _ _ hr => d_first_of_row (c_first_numbers := c_first_numbers) hr) w_first_of_row
  have c_unlike_day : Callee P w K mg base 2 "unlike_day" p_unlike_day sp_unlike_day := callee_of S.unlike_day sc_unlike_day (by intro ds r h; first | (obtain ⟨_, rfl, _⟩ := h; rfl) | (obtain ⟨_, _, rfl, _⟩ := h; rfl) | (obtain ⟨_, _, _, rfl, _⟩ := h; rfl) | (obtain ⟨_, _, _, _, ⟨rfl, _⟩ | ⟨_, rfl, _⟩⟩ := h <;> rfl)) (fun _ _ _ _ _ _ _ hr => d_unlike_day (Tx := Tx) (c_first_numbers := c_first_numbers) hr) w_unlike_day
  have c_set_of : Callee P w K mg base 2 "set_of" p_set_of sp_set_of := callee_of S.set_of sc_set_of (by intro ds r h; first | (obtain ⟨_, rfl, _⟩ := h; rfl) | (obtain ⟨_, _, rfl, _⟩ := h; rfl) | (obtain ⟨_, _, _, rfl, _⟩ := h; rfl) | (obtain ⟨_, _, _, _, ⟨rfl, _⟩ | ⟨_, rfl, _⟩⟩ := h <;> rfl)) (fun _ _ _ _ _ _ _ hr => d_set_of (c_need_number := c_need_number) (c_set_of_days := c_set_of_days) hr) w_set_of
  have c_z_length : CalleeG P w K mg base 2 "_law_dl_length" p_z_length sp_z_length := calleeG_of S.z_length sc_z_length (lenM (S := S_z_length) (n := 1) (by intro ds acc R h; first | (obtain ⟨rfl, _⟩ := h; rfl) | (obtain ⟨_, _, rfl, _⟩ := h; rfl))) (fun _ _ _ _ _ _ _ hr hg => d_z_length (Tx := Tx) (c_z_pick := c_z_pick) hr hg) (fun _ _ _ _ h => bodyM_of h w_z_length)
  have c_z_set_wide : CalleeG P w K mg base 2 "_law_dl_set_wide" p_z_set_wide sp_z_set_wide := calleeG_of S.z_set_wide sc_z_set_wide (lenM (S := S_z_set_wide) (n := 2) (by intro ds acc R h; first | (obtain ⟨rfl, _⟩ := h; rfl) | (obtain ⟨_, _, rfl, _⟩ := h; rfl))) (fun _ _ _ _ _ _ _ hr hg => d_z_set_wide (Tx := Tx) (c_z_has := c_z_has) (c_z_pick := c_z_pick) hr hg) (fun _ _ _ _ h => bodyM_of h w_z_set_wide)
  have c_need_ladder : Callee P w K mg base 3 "need_ladder" p_need_ladder sp_need_ladder := callee_of S.need_ladder sc_need_ladder (by intro ds r h; first | (obtain ⟨_, rfl, _⟩ := h; rfl) | (obtain ⟨_, _, rfl, _⟩ := h; rfl) | (obtain ⟨_, _, _, rfl, _⟩ := h; rfl) | (obtain ⟨_, _, _, _, ⟨rfl, _⟩ | ⟨_, rfl, _⟩⟩ := h <;> rfl)) (fun _ _ _ _ _ _ _ hr => d_need_ladder (c_is_ladder := c_is_ladder) hr) w_need_ladder
  have c_need_set : Callee P w K mg base 3 "need_set" p_need_set sp_need_set := callee_of S.need_set sc_need_set (by intro ds r h; first | (obtain ⟨_, rfl, _⟩ := h; rfl) | (obtain ⟨_, _, rfl, _⟩ := h; rfl) | (obtain ⟨_, _, _, rfl, _⟩ := h; rfl) | (obtain ⟨_, _, _, _, ⟨rfl, _⟩ | ⟨_, rfl, _⟩⟩ := h <;> rfl)) (fun _ _ _ _ _ _ _ hr => d_need_set (c_is_set := c_is_set) hr) w_need_set
  have c_least_way : Callee P w K mg base 3 "least_way" p_least_way sp_least_way := callee_of S.least_way sc_least_way (by intro ds r h; first | (obtain ⟨_, rfl, _⟩ := h; rfl) | (obtain ⟨_, _, rfl, _⟩ := h; rfl) | (obtain ⟨_, _, _, rfl, _⟩ := h; rfl) | (obtain ⟨_, _, _, _, ⟨rfl, _⟩ | ⟨_, rfl, _⟩⟩ := h <;> rfl)) (fun _ _ _ _ _ _ _ hr => d_least_way (Tx := Tx) (c_least_length := c_least_length) hr) w_least_way
  have c_common_way : Callee P w K mg base 3 "common_way" p_common_way sp_common_way := callee_of S.common_way sc_common_way (by intro ds r h; first | (obtain ⟨_, rfl, _⟩ := h; rfl) | (obtain ⟨_, _, rfl, _⟩ := h; rfl) | (obtain ⟨_, _, _, rfl, _⟩ := h; rfl) | (obtain ⟨_, _, _, _, ⟨rfl, _⟩ | ⟨_, rfl, _⟩⟩ := h <;> rfl)) (fun _ _ _ _ _ _ _ hr => d_common_way (Tx := Tx) (c_common_multiple := c_common_multiple) hr) w_common_way
  have c_common_rows : Callee P w K mg base 3 "common_rows" p_common_rows sp_common_rows := callee_of S.common_rows sc_common_rows (by intro ds r h; first | (obtain ⟨_, rfl, _⟩ := h; rfl) | (obtain ⟨_, _, rfl, _⟩ := h; rfl) | (obtain ⟨_, _, _, rfl, _⟩ := h; rfl) | (obtain ⟨_, _, _, _, ⟨rfl, _⟩ | ⟨_, rfl, _⟩⟩ := h <;> rfl)) (fun _ _ _ _ _ _ _ hr => d_common_rows (Tx := Tx) (c_common_multiple := c_common_multiple) (c_first_of_row := c_first_of_row) (c_set_row := c_set_row) hr) w_common_rows
  have c_z_set : CalleeG P w K mg base 3 "_law_dl_set" p_z_set sp_z_set := calleeG_of S.z_set sc_z_set (lenM (S := S_z_set) (n := 1) (by intro ds acc R h; first | (obtain ⟨rfl, _⟩ := h; rfl) | (obtain ⟨_, _, rfl, _⟩ := h; rfl))) (fun _ _ _ _ _ _ _ hr hg => d_z_set (Tx := Tx) (c_z_length := c_z_length) (c_z_pick := c_z_pick) hr hg) (fun _ _ _ _ h => bodyM_of h w_z_set)
  have c_least_row : Callee P w K mg base 4 "least_row" p_least_row sp_least_row := callee_of S.least_row sc_least_row (by intro ds r h; first | (obtain ⟨_, rfl, _⟩ := h; rfl) | (obtain ⟨_, _, rfl, _⟩ := h; rfl) | (obtain ⟨_, _, _, rfl, _⟩ := h; rfl) | (obtain ⟨_, _, _, _, ⟨rfl, _⟩ | ⟨_, rfl, _⟩⟩ := h <;> rfl)) (fun _ _ _ _ _ _ _ hr => d_least_row (c_least_way := c_least_way) hr) w_least_row
  have c_counts_of : Callee P w K mg base 4 "counts_of" p_counts_of sp_counts_of := callee_of S.counts_of sc_counts_of (by intro ds r h; first | (obtain ⟨_, rfl, _⟩ := h; rfl) | (obtain ⟨_, _, rfl, _⟩ := h; rfl) | (obtain ⟨_, _, _, rfl, _⟩ := h; rfl) | (obtain ⟨_, _, _, _, ⟨rfl, _⟩ | ⟨_, rfl, _⟩⟩ := h <;> rfl)) (fun _ _ _ _ _ _ _ hr => d_counts_of (Tx := Tx) (c_least_way := c_least_way) (c_set_row := c_set_row) hr) w_counts_of
  have c_joined_ladders : Callee P w K mg base 4 "joined_ladders" p_joined_ladders sp_joined_ladders := callee_of S.joined_ladders sc_joined_ladders (by intro ds r h; first | (obtain ⟨_, rfl, _⟩ := h; rfl) | (obtain ⟨_, _, rfl, _⟩ := h; rfl) | (obtain ⟨_, _, _, rfl, _⟩ := h; rfl) | (obtain ⟨_, _, _, _, ⟨rfl, _⟩ | ⟨_, rfl, _⟩⟩ := h <;> rfl)) (fun _ _ _ _ _ _ _ hr => d_joined_ladders (Tx := Tx) (c_common_divisor := c_common_divisor) (c_first_at_least := c_first_at_least) (c_first_numbers := c_first_numbers) (c_least_way := c_least_way) (c_number_at := c_number_at) hr) w_joined_ladders
  have c_added_ladders : Callee P w K mg base 4 "added_ladders" p_added_ladders sp_added_ladders := callee_of S.added_ladders sc_added_ladders (by intro ds r h; first | (obtain ⟨_, rfl, _⟩ := h; rfl) | (obtain ⟨_, _, rfl, _⟩ := h; rfl) | (obtain ⟨_, _, _, rfl, _⟩ := h; rfl) | (obtain ⟨_, _, _, _, ⟨rfl, _⟩ | ⟨_, rfl, _⟩⟩ := h <;> rfl)) (fun _ _ _ _ _ _ _ hr => d_added_ladders (Tx := Tx) (c_common_way := c_common_way) (c_first_numbers := c_first_numbers) (c_least_way := c_least_way) (c_risen := c_risen) hr) w_added_ladders
  have c_less_day : Callee P w K mg base 4 "less_day" p_less_day sp_less_day := callee_of S.less_day sc_less_day (by intro ds r h; first | (obtain ⟨_, rfl, _⟩ := h; rfl) | (obtain ⟨_, _, rfl, _⟩ := h; rfl) | (obtain ⟨_, _, _, rfl, _⟩ := h; rfl) | (obtain ⟨_, _, _, _, ⟨rfl, _⟩ | ⟨_, rfl, _⟩⟩ := h <;> rfl)) (fun _ _ _ _ _ _ _ hr => d_less_day (Tx := Tx) (c_common_way := c_common_way) (c_first_numbers := c_first_numbers) (c_risen := c_risen) hr) w_less_day
  have c_need_two_days : Callee P w K mg base 4 "need_two_days" p_need_two_days sp_need_two_days := callee_of S.need_two_days sc_need_two_days (by intro ds r h; first | (obtain ⟨_, rfl, _⟩ := h; rfl) | (obtain ⟨_, _, rfl, _⟩ := h; rfl) | (obtain ⟨_, _, _, rfl, _⟩ := h; rfl) | (obtain ⟨_, _, _, _, ⟨rfl, _⟩ | ⟨_, rfl, _⟩⟩ := h <;> rfl)) (fun _ _ _ _ _ _ _ hr => d_need_two_days (c_need_set := c_need_set) hr) w_need_two_days
  have c_next_day : Callee P w K mg base 4 "next_day" p_next_day sp_next_day := callee_of S.next_day sc_next_day (by intro ds r h; first | (obtain ⟨_, rfl, _⟩ := h; rfl) | (obtain ⟨_, _, rfl, _⟩ := h; rfl) | (obtain ⟨_, _, _, rfl, _⟩ := h; rfl) | (obtain ⟨_, _, _, _, ⟨rfl, _⟩ | ⟨_, rfl, _⟩⟩ := h <;> rfl)) (fun _ _ _ _ _ _ _ hr => d_next_day (c_need_number := c_need_number) (c_need_set := c_need_set) (c_next_of := c_next_of) hr) w_next_day
  have c_need_two_ladders : Callee P w K mg base 4 "need_two_ladders" p_need_two_ladders sp_need_two_ladders := callee_of S.need_two_ladders sc_need_two_ladders (by intro ds r h; first | (obtain ⟨_, rfl, _⟩ := h; rfl) | (obtain ⟨_, _, rfl, _⟩ := h; rfl) | (obtain ⟨_, _, _, rfl, _⟩ := h; rfl) | (obtain ⟨_, _, _, _, ⟨rfl, _⟩ | ⟨_, rfl, _⟩⟩ := h <;> rfl)) (fun _ _ _ _ _ _ _ hr => d_need_two_ladders (c_need_ladder := c_need_ladder) hr) w_need_two_ladders
  have c_value : Callee P w K mg base 4 "value" p_value sp_value := callee_of S.value sc_value (by intro ds r h; first | (obtain ⟨_, rfl, _⟩ := h; rfl) | (obtain ⟨_, _, rfl, _⟩ := h; rfl) | (obtain ⟨_, _, _, rfl, _⟩ := h; rfl) | (obtain ⟨_, _, _, _, ⟨rfl, _⟩ | ⟨_, rfl, _⟩⟩ := h <;> rfl)) (fun _ _ _ _ _ _ _ hr => d_value (c_need_ladder := c_need_ladder) (c_need_number := c_need_number) (c_number_at := c_number_at) hr) w_value
  have c_set_from : Callee P w K mg base 5 "set_from" p_set_from sp_set_from := callee_of S.set_from sc_set_from (by intro ds r h; first | (obtain ⟨_, rfl, _⟩ := h; rfl) | (obtain ⟨_, _, rfl, _⟩ := h; rfl) | (obtain ⟨_, _, _, rfl, _⟩ := h; rfl) | (obtain ⟨_, _, _, _, ⟨rfl, _⟩ | ⟨_, rfl, _⟩⟩ := h <;> rfl)) (fun _ _ _ _ _ _ _ hr => d_set_from (Tx := Tx) (c_least_row := c_least_row) hr) w_set_from
  have c_first_apart : Callee P w K mg base 5 "first_apart" p_first_apart sp_first_apart := callee_of S.first_apart sc_first_apart (by intro ds r h; first | (obtain ⟨_, rfl, _⟩ := h; rfl) | (obtain ⟨_, _, rfl, _⟩ := h; rfl) | (obtain ⟨_, _, _, rfl, _⟩ := h; rfl) | (obtain ⟨_, _, _, _, ⟨rfl, _⟩ | ⟨_, rfl, _⟩⟩ := h <;> rfl)) (fun _ _ _ _ _ _ _ hr => d_first_apart (Tx := Tx) (c_first_of_row := c_first_of_row) (c_need_two_days := c_need_two_days) (c_set_row := c_set_row) hr) w_first_apart
  have c_meeting : Callee P w K mg base 5 "meeting" p_meeting sp_meeting := callee_of S.meeting sc_meeting (by intro ds r h; first | (obtain ⟨_, rfl, _⟩ := h; rfl) | (obtain ⟨_, _, rfl, _⟩ := h; rfl) | (obtain ⟨_, _, _, rfl, _⟩ := h; rfl) | (obtain ⟨_, _, _, _, ⟨rfl, _⟩ | ⟨_, rfl, _⟩⟩ := h <;> rfl)) (fun _ _ _ _ _ _ _ hr => d_meeting (Tx := Tx) (c_common_rows := c_common_rows) (c_need_two_days := c_need_two_days) hr) w_meeting
  have c_counts : Callee P w K mg base 5 "counts" p_counts sp_counts := callee_of S.counts sc_counts (by intro ds r h; first | (obtain ⟨_, rfl, _⟩ := h; rfl) | (obtain ⟨_, _, rfl, _⟩ := h; rfl) | (obtain ⟨_, _, _, rfl, _⟩ := h; rfl) | (obtain ⟨_, _, _, _, ⟨rfl, _⟩ | ⟨_, rfl, _⟩⟩ := h <;> rfl)) (fun _ _ _ _ _ _ _ hr => d_counts (c_counts_of := c_counts_of) (c_need_set := c_need_set) hr) w_counts
  have c_joined : Callee P w K mg base 5 "joined" p_joined sp_joined := callee_of S.joined sc_joined (by intro ds r h; first | (obtain ⟨_, rfl, _⟩ := h; rfl) | (obtain ⟨_, _, rfl, _⟩ := h; rfl) | (obtain ⟨_, _, _, rfl, _⟩ := h; rfl) | (obtain ⟨_, _, _, _, ⟨rfl, _⟩ | ⟨_, rfl, _⟩⟩ := h <;> rfl)) (fun _ _ _ _ _ _ _ hr => d_joined (c_joined_ladders := c_joined_ladders) (c_need_two_ladders := c_need_two_ladders) hr) w_joined
  have c_plus : Callee P w K mg base 5 "plus" p_plus sp_plus := callee_of S.plus sc_plus (by intro ds r h; first | (obtain ⟨_, rfl, _⟩ := h; rfl) | (obtain ⟨_, _, rfl, _⟩ := h; rfl) | (obtain ⟨_, _, _, rfl, _⟩ := h; rfl) | (obtain ⟨_, _, _, _, ⟨rfl, _⟩ | ⟨_, rfl, _⟩⟩ := h <;> rfl)) (fun _ _ _ _ _ _ _ hr => d_plus (c_added_ladders := c_added_ladders) (c_need_two_ladders := c_need_two_ladders) hr) w_plus
  have c_alike : Callee P w K mg base 5 "alike" p_alike sp_alike := callee_of S.alike sc_alike (by intro ds r h; first | (obtain ⟨_, rfl, _⟩ := h; rfl) | (obtain ⟨_, _, rfl, _⟩ := h; rfl) | (obtain ⟨_, _, _, rfl, _⟩ := h; rfl) | (obtain ⟨_, _, _, _, ⟨rfl, _⟩ | ⟨_, rfl, _⟩⟩ := h <;> rfl)) (fun _ _ _ _ _ _ _ hr => d_alike (c_need_two_ladders := c_need_two_ladders) (c_unlike_day := c_unlike_day) hr) w_alike
  have c_first_unlike : Callee P w K mg base 5 "first_unlike" p_first_unlike sp_first_unlike := callee_of S.first_unlike sc_first_unlike (by intro ds r h; first | (obtain ⟨_, rfl, _⟩ := h; rfl) | (obtain ⟨_, _, rfl, _⟩ := h; rfl) | (obtain ⟨_, _, _, rfl, _⟩ := h; rfl) | (obtain ⟨_, _, _, _, ⟨rfl, _⟩ | ⟨_, rfl, _⟩⟩ := h <;> rfl)) (fun _ _ _ _ _ _ _ hr => d_first_unlike (c_need_two_ladders := c_need_two_ladders) (c_unlike_day := c_unlike_day) hr) w_first_unlike
  have c_first_less : Callee P w K mg base 5 "first_less" p_first_less sp_first_less := callee_of S.first_less sc_first_less (by intro ds r h; first | (obtain ⟨_, rfl, _⟩ := h; rfl) | (obtain ⟨_, _, rfl, _⟩ := h; rfl) | (obtain ⟨_, _, _, rfl, _⟩ := h; rfl) | (obtain ⟨_, _, _, _, ⟨rfl, _⟩ | ⟨_, rfl, _⟩⟩ := h <;> rfl)) (fun _ _ _ _ _ _ _ hr => d_first_less (c_less_day := c_less_day) (c_need_two_ladders := c_need_two_ladders) hr) w_first_less
  have c_least_set : Callee P w K mg base 6 "least_set" p_least_set sp_least_set := callee_of S.least_set sc_least_set (by intro ds r h; first | (obtain ⟨_, rfl, _⟩ := h; rfl) | (obtain ⟨_, _, rfl, _⟩ := h; rfl) | (obtain ⟨_, _, _, rfl, _⟩ := h; rfl) | (obtain ⟨_, _, _, _, ⟨rfl, _⟩ | ⟨_, rfl, _⟩⟩ := h <;> rfl)) (fun _ _ _ _ _ _ _ hr => d_least_set (c_need_set := c_need_set) (c_set_from := c_set_from) (c_set_row := c_set_row) hr) w_least_set
  have c_both : Callee P w K mg base 6 "both" p_both sp_both := callee_of S.both sc_both (by intro ds r h; first | (obtain ⟨_, rfl, _⟩ := h; rfl) | (obtain ⟨_, _, rfl, _⟩ := h; rfl) | (obtain ⟨_, _, _, rfl, _⟩ := h; rfl) | (obtain ⟨_, _, _, _, ⟨rfl, _⟩ | ⟨_, rfl, _⟩⟩ := h <;> rfl)) (fun _ _ _ _ _ _ _ hr => d_both (Tx := Tx) (c_common_rows := c_common_rows) (c_need_two_days := c_need_two_days) (c_set_from := c_set_from) hr) w_both
  have c_either : Callee P w K mg base 6 "either" p_either sp_either := callee_of S.either sc_either (by intro ds r h; first | (obtain ⟨_, rfl, _⟩ := h; rfl) | (obtain ⟨_, _, rfl, _⟩ := h; rfl) | (obtain ⟨_, _, _, rfl, _⟩ := h; rfl) | (obtain ⟨_, _, _, _, ⟨rfl, _⟩ | ⟨_, rfl, _⟩⟩ := h <;> rfl)) (fun _ _ _ _ _ _ _ hr => d_either (Tx := Tx) (c_common_rows := c_common_rows) (c_need_two_days := c_need_two_days) (c_set_from := c_set_from) hr) w_either
  have c_but : Callee P w K mg base 6 "but" p_but sp_but := callee_of S.but sc_but (by intro ds r h; first | (obtain ⟨_, rfl, _⟩ := h; rfl) | (obtain ⟨_, _, rfl, _⟩ := h; rfl) | (obtain ⟨_, _, _, rfl, _⟩ := h; rfl) | (obtain ⟨_, _, _, _, ⟨rfl, _⟩ | ⟨_, rfl, _⟩⟩ := h <;> rfl)) (fun _ _ _ _ _ _ _ hr => d_but (Tx := Tx) (c_common_rows := c_common_rows) (c_need_two_days := c_need_two_days) (c_set_from := c_set_from) hr) w_but
  have c_others : Callee P w K mg base 6 "others" p_others sp_others := callee_of S.others sc_others (by intro ds r h; first | (obtain ⟨_, rfl, _⟩ := h; rfl) | (obtain ⟨_, _, rfl, _⟩ := h; rfl) | (obtain ⟨_, _, _, rfl, _⟩ := h; rfl) | (obtain ⟨_, _, _, _, ⟨rfl, _⟩ | ⟨_, rfl, _⟩⟩ := h <;> rfl)) (fun _ _ _ _ _ _ _ hr => d_others (c_need_set := c_need_set) (c_set_from := c_set_from) (c_set_row := c_set_row) hr) w_others
  have c_moved : Callee P w K mg base 6 "moved" p_moved sp_moved := callee_of S.moved sc_moved (by intro ds r h; first | (obtain ⟨_, rfl, _⟩ := h; rfl) | (obtain ⟨_, _, rfl, _⟩ := h; rfl) | (obtain ⟨_, _, _, rfl, _⟩ := h; rfl) | (obtain ⟨_, _, _, _, ⟨rfl, _⟩ | ⟨_, rfl, _⟩⟩ := h <;> rfl)) (fun _ _ _ _ _ _ _ hr => d_moved (Tx := Tx) (c_need_set := c_need_set) (c_set_from := c_set_from) (c_set_row := c_set_row) hr) w_moved
  have c_z_sums_right : CalleeG P w K mg base 7 "_law_dl_sums_right" p_z_sums_right sp_z_sums_right := calleeG_of S.z_sums_right sc_z_sums_right (lenR (S := S_z_sums_right) (n := 2) (by rintro ds r ⟨_, _, rfl, _⟩; rfl)) (fun _ _ _ _ _ _ _ hr hg => d_z_sums_right (Tx := Tx) (c_both := c_both) (c_but := c_but) (c_counts := c_counts) (c_either := c_either) (c_first_less := c_first_less) (c_least_set := c_least_set) (c_others := c_others) (c_plus := c_plus) hr hg) (fun _ _ _ _ h => body_of h w_z_sums_right)
  have c_z_turned_right : CalleeG P w K mg base 7 "_law_dl_turned_right" p_z_turned_right sp_z_turned_right := calleeG_of S.z_turned_right sc_z_turned_right (lenR (S := S_z_turned_right) (n := 2) (by rintro ds r ⟨_, _, rfl, _⟩; rfl)) (fun _ _ _ _ _ _ _ hr hg => d_z_turned_right (Tx := Tx) (c_alike := c_alike) (c_both := c_both) (c_but := c_but) (c_counts := c_counts) (c_either := c_either) (c_first_apart := c_first_apart) (c_first_unlike := c_first_unlike) (c_least_set := c_least_set) (c_meeting := c_meeting) (c_next_day := c_next_day) (c_others := c_others) hr hg) (fun _ _ _ _ h => body_of h w_z_turned_right)
  have c_z_moved_right : CalleeG P w K mg base 7 "_law_dl_moved_right" p_z_moved_right sp_z_moved_right := calleeG_of S.z_moved_right sc_z_moved_right (lenM (S := S_z_moved_right) (n := 1) (by intro ds acc R h; first | (obtain ⟨rfl, _⟩ := h; rfl) | (obtain ⟨_, _, rfl, _⟩ := h; rfl))) (fun _ _ _ _ _ _ _ hr hg => d_z_moved_right (Tx := Tx) (c_z_has := c_z_has) (c_z_pick := c_z_pick) (c_counts := c_counts) (c_either := c_either) (c_joined := c_joined) (c_least_set := c_least_set) (c_moved := c_moved) (c_plus := c_plus) (c_set_of := c_set_of) (c_value := c_value) hr hg) (fun _ _ _ _ h => bodyM_of h w_z_moved_right)
  have c_z_right : CalleeG P w K mg base 8 "_law_right" p_z_right sp_z_right := calleeG_of S.z_right sc_z_right (lenM (S := S_z_right) (n := 0) (by intro ds acc R h; first | (obtain ⟨rfl, _⟩ := h; rfl) | (obtain ⟨_, _, rfl, _⟩ := h; rfl))) (fun _ _ _ _ _ _ _ hr hg => d_z_right (Tx := Tx) (c_z_moved_right := c_z_moved_right) (c_z_pick := c_z_pick) (c_z_set := c_z_set) (c_z_set_wide := c_z_set_wide) (c_z_sums_right := c_z_sums_right) (c_z_turned_right := c_z_turned_right) hr hg) (fun _ _ _ _ h => bodyM_of h w_z_right)
  exact fnG_of F sc_law (by rintro vs H Q E ⟨_, _, rfl, _⟩; rfl) fun cdv A outer s H vs Q E hr hg h => ⟨t_law K, d_law (Tx := Tx) (c_z_sack := c_z_sack) (c_z_right := c_z_right) hr hg, w_law vs H Q E h⟩
end LD
set_option maxHeartbeats 0
/-! Head: what the top has left, by names (lists printed by gen.py). -/
namespace LD
open PySem PySem.Spec PyProof.Rows L2
theorem fun_of {K : PySem.W.Frag} {y : Str} {st : Stmt} {f : Addr} {fd : FuncData} (F : FunD K y y (defArgs st) (defBody st) (defScope st) [] [] f fd) : Fun K y y st f fd := by
  obtain ⟨oc, od, dV, kV, doc, pm, an, cdv, ct, osl, e, lk, hcd, hD, _⟩ := F.ex
  rcases hD with ⟨_, rfl⟩ | ⟨z, _⟩
  · exact ⟨⟨oc, od, kV, doc, pm, an, cdv, ct, osl, e, lk, hcd⟩, F.kp⟩
  · exact absurd rfl z
theorem stands_of {K : PySem.W.Frag} {mg : Str → Option Value} {x y : Str} {st : Stmt} {ps : List Str} {f : Addr} (hd : ∃ fd, FunD K y y (defArgs st) (defBody st) (defScope st) [] [] f fd) (hm : mg x = some (.ref f))
    (hb : ∀ (kV doc pm : Value) (an : Option Addr) (cdv ct : Value) (us : List Value), us.length = ps.length → bindArgs (PySem.W.fnOf y y (defArgs st) (defBody st) (defScope st) .none kV doc pm an cdv ct) ⟨us, []⟩ = pure (ps.zip us)) : Stands K mg x y st ps := by
  obtain ⟨fd, F⟩ := hd
  exact ⟨f, fd, hm, fun_of F, F.bindsN hb⟩
def e_never_falls : He.DefD := ⟨("never_falls", none), "never_falls", "never_falls", defArgs s_never_falls, defBody s_never_falls, defScope s_never_falls, [], []⟩
def e_always_rises : He.DefD := ⟨("always_rises", none), "always_rises", "always_rises", defArgs s_always_rises, defBody s_always_rises, defScope s_always_rises, [], []⟩
def e_need_number : He.DefD := ⟨("need_number", none), "need_number", "need_number", defArgs s_need_number, defBody s_need_number, defScope s_need_number, [], []⟩
def e_common_divisor : He.DefD := ⟨("common_divisor", none), "common_divisor", "common_divisor", defArgs s_common_divisor, defBody s_common_divisor, defScope s_common_divisor, [], []⟩
def e_prime_parts : He.DefD := ⟨("prime_parts", none), "prime_parts", "prime_parts", defArgs s_prime_parts, defBody s_prime_parts, defScope s_prime_parts, [], []⟩
def e_number_at : He.DefD := ⟨("number_at", none), "number_at", "number_at", defArgs s_number_at, defBody s_number_at, defScope s_number_at, [], []⟩
def e_first_numbers : He.DefD := ⟨("first_numbers", none), "first_numbers", "first_numbers", defArgs s_first_numbers, defBody s_first_numbers, defScope s_first_numbers, [], []⟩
def e_comes_again : He.DefD := ⟨("comes_again", none), "comes_again", "comes_again", defArgs s_comes_again, defBody s_comes_again, defScope s_comes_again, [], []⟩
def e_set_row : He.DefD := ⟨("set_row", none), "set_row", "set_row", defArgs s_set_row, defBody s_set_row, defScope s_set_row, [], []⟩
def e_set_of_days : He.DefD := ⟨("set_of_days", none), "set_of_days", "set_of_days", defArgs s_set_of_days, defBody s_set_of_days, defScope s_set_of_days, [], []⟩
def e_next_of : He.DefD := ⟨("next_of", none), "next_of", "next_of", defArgs s_next_of, defBody s_next_of, defScope s_next_of, [], []⟩
def e_first_at_least : He.DefD := ⟨("first_at_least", none), "first_at_least", "first_at_least", defArgs s_first_at_least, defBody s_first_at_least, defScope s_first_at_least, [], []⟩
def e_risen : He.DefD := ⟨("risen", none), "risen", "risen", defArgs s_risen, defBody s_risen, defScope s_risen, [], []⟩
def e_z_sack : He.DefD := ⟨("_law_dl_sack", none), "_law_dl_sack", "_law_dl_sack", defArgs s_z_sack, defBody s_z_sack, defScope s_z_sack, [], []⟩
def e_z_pick : He.DefD := ⟨("_law_dl_pick", none), "_law_dl_pick", "_law_dl_pick", defArgs s_z_pick, defBody s_z_pick, defScope s_z_pick, [], []⟩
def e_z_has : He.DefD := ⟨("_law_dl_has", none), "_law_dl_has", "_law_dl_has", defArgs s_z_has, defBody s_z_has, defScope s_z_has, [], []⟩
def e_is_ladder : He.DefD := ⟨("is_ladder", none), "is_ladder", "is_ladder", defArgs s_is_ladder, defBody s_is_ladder, defScope s_is_ladder, [], []⟩
def e_is_set : He.DefD := ⟨("is_set", none), "is_set", "is_set", defArgs s_is_set, defBody s_is_set, defScope s_is_set, [], []⟩
def e_common_multiple : He.DefD := ⟨("common_multiple", none), "common_multiple", "common_multiple", defArgs s_common_multiple, defBody s_common_multiple, defScope s_common_multiple, [], []⟩
def e_least_length : He.DefD := ⟨("least_length", none), "least_length", "least_length", defArgs s_least_length, defBody s_least_length, defScope s_least_length, [], []⟩
def e_first_of_row : He.DefD := ⟨("first_of_row", none), "first_of_row", "first_of_row", defArgs s_first_of_row, defBody s_first_of_row, defScope s_first_of_row, [], []⟩
def e_unlike_day : He.DefD := ⟨("unlike_day", none), "unlike_day", "unlike_day", defArgs s_unlike_day, defBody s_unlike_day, defScope s_unlike_day, [], []⟩
def e_set_of : He.DefD := ⟨("set_of", none), "set_of", "set_of", defArgs s_set_of, defBody s_set_of, defScope s_set_of, [], []⟩
def e_z_length : He.DefD := ⟨("_law_dl_length", none), "_law_dl_length", "_law_dl_length", defArgs s_z_length, defBody s_z_length, defScope s_z_length, [], []⟩
def e_z_set_wide : He.DefD := ⟨("_law_dl_set_wide", none), "_law_dl_set_wide", "_law_dl_set_wide", defArgs s_z_set_wide, defBody s_z_set_wide, defScope s_z_set_wide, [], []⟩
def e_need_ladder : He.DefD := ⟨("need_ladder", none), "need_ladder", "need_ladder", defArgs s_need_ladder, defBody s_need_ladder, defScope s_need_ladder, [], []⟩
def e_need_set : He.DefD := ⟨("need_set", none), "need_set", "need_set", defArgs s_need_set, defBody s_need_set, defScope s_need_set, [], []⟩
def e_least_way : He.DefD := ⟨("least_way", none), "least_way", "least_way", defArgs s_least_way, defBody s_least_way, defScope s_least_way, [], []⟩
def e_common_way : He.DefD := ⟨("common_way", none), "common_way", "common_way", defArgs s_common_way, defBody s_common_way, defScope s_common_way, [], []⟩
def e_common_rows : He.DefD := ⟨("common_rows", none), "common_rows", "common_rows", defArgs s_common_rows, defBody s_common_rows, defScope s_common_rows, [], []⟩
def e_z_set : He.DefD := ⟨("_law_dl_set", none), "_law_dl_set", "_law_dl_set", defArgs s_z_set, defBody s_z_set, defScope s_z_set, [], []⟩
def e_least_row : He.DefD := ⟨("least_row", none), "least_row", "least_row", defArgs s_least_row, defBody s_least_row, defScope s_least_row, [], []⟩
def e_counts_of : He.DefD := ⟨("counts_of", none), "counts_of", "counts_of", defArgs s_counts_of, defBody s_counts_of, defScope s_counts_of, [], []⟩
def e_joined_ladders : He.DefD := ⟨("joined_ladders", none), "joined_ladders", "joined_ladders", defArgs s_joined_ladders, defBody s_joined_ladders, defScope s_joined_ladders, [], []⟩
def e_added_ladders : He.DefD := ⟨("added_ladders", none), "added_ladders", "added_ladders", defArgs s_added_ladders, defBody s_added_ladders, defScope s_added_ladders, [], []⟩
def e_less_day : He.DefD := ⟨("less_day", none), "less_day", "less_day", defArgs s_less_day, defBody s_less_day, defScope s_less_day, [], []⟩
def e_need_two_days : He.DefD := ⟨("need_two_days", none), "need_two", "need_two", defArgs s_need_two_days, defBody s_need_two_days, defScope s_need_two_days, [], []⟩
def e_next_day : He.DefD := ⟨("next_day", none), "next_day", "next_day", defArgs s_next_day, defBody s_next_day, defScope s_next_day, [], []⟩
def e_need_two_ladders : He.DefD := ⟨("need_two_ladders", none), "need_two", "need_two", defArgs s_need_two_ladders, defBody s_need_two_ladders, defScope s_need_two_ladders, [], []⟩
def e_value : He.DefD := ⟨("value", none), "value", "value", defArgs s_value, defBody s_value, defScope s_value, [], []⟩
def e_set_from : He.DefD := ⟨("set_from", none), "set_from", "set_from", defArgs s_set_from, defBody s_set_from, defScope s_set_from, [], []⟩
def e_first_apart : He.DefD := ⟨("first_apart", none), "first_apart", "first_apart", defArgs s_first_apart, defBody s_first_apart, defScope s_first_apart, [], []⟩
def e_meeting : He.DefD := ⟨("meeting", none), "meeting", "meeting", defArgs s_meeting, defBody s_meeting, defScope s_meeting, [], []⟩
def e_counts : He.DefD := ⟨("counts", none), "counts", "counts", defArgs s_counts, defBody s_counts, defScope s_counts, [], []⟩
def e_joined : He.DefD := ⟨("joined", none), "joined", "joined", defArgs s_joined, defBody s_joined, defScope s_joined, [], []⟩
def e_plus : He.DefD := ⟨("plus", none), "plus", "plus", defArgs s_plus, defBody s_plus, defScope s_plus, [], []⟩
def e_alike : He.DefD := ⟨("alike", none), "alike", "alike", defArgs s_alike, defBody s_alike, defScope s_alike, [], []⟩
def e_first_unlike : He.DefD := ⟨("first_unlike", none), "first_unlike", "first_unlike", defArgs s_first_unlike, defBody s_first_unlike, defScope s_first_unlike, [], []⟩
def e_first_less : He.DefD := ⟨("first_less", none), "first_less", "first_less", defArgs s_first_less, defBody s_first_less, defScope s_first_less, [], []⟩
def e_least_set : He.DefD := ⟨("least_set", none), "least_set", "least_set", defArgs s_least_set, defBody s_least_set, defScope s_least_set, [], []⟩
def e_both : He.DefD := ⟨("both", none), "both", "both", defArgs s_both, defBody s_both, defScope s_both, [], []⟩
def e_either : He.DefD := ⟨("either", none), "either", "either", defArgs s_either, defBody s_either, defScope s_either, [], []⟩
def e_but : He.DefD := ⟨("but", none), "but", "but", defArgs s_but, defBody s_but, defScope s_but, [], []⟩
def e_others : He.DefD := ⟨("others", none), "others", "others", defArgs s_others, defBody s_others, defScope s_others, [], []⟩
def e_moved : He.DefD := ⟨("moved", none), "moved", "moved", defArgs s_moved, defBody s_moved, defScope s_moved, [], []⟩
def e_z_sums_right : He.DefD := ⟨("_law_dl_sums_right", none), "_law_dl_sums_right", "_law_dl_sums_right", defArgs s_z_sums_right, defBody s_z_sums_right, defScope s_z_sums_right, [], []⟩
def e_z_turned_right : He.DefD := ⟨("_law_dl_turned_right", none), "_law_dl_turned_right", "_law_dl_turned_right", defArgs s_z_turned_right, defBody s_z_turned_right, defScope s_z_turned_right, [], []⟩
def e_z_moved_right : He.DefD := ⟨("_law_dl_moved_right", none), "_law_dl_moved_right", "_law_dl_moved_right", defArgs s_z_moved_right, defBody s_z_moved_right, defScope s_z_moved_right, [], []⟩
def e_z_right : He.DefD := ⟨("_law_right", none), "_law_right", "_law_right", defArgs s_z_right, defBody s_z_right, defScope s_z_right, [], []⟩
def e_law : He.DefD := ⟨("law", none), "law", "law", defArgs s_law, defBody s_law, defScope s_law, [], []⟩
def fn : List He.DefD := [e_never_falls, e_always_rises, e_need_number, e_common_divisor, e_prime_parts, e_number_at, e_first_numbers, e_comes_again, e_set_row, e_set_of_days, e_next_of, e_first_at_least, e_risen, e_z_sack, e_z_pick, e_z_has, e_is_ladder, e_is_set, e_common_multiple, e_least_length, e_first_of_row, e_unlike_day, e_set_of, e_z_length, e_z_set_wide, e_need_ladder, e_need_set, e_least_way, e_common_way, e_common_rows] ++ [e_z_set, e_least_row, e_counts_of, e_joined_ladders, e_added_ladders, e_less_day, e_need_two_days, e_next_day, e_need_two_ladders, e_value, e_set_from, e_first_apart, e_meeting, e_counts, e_joined, e_plus, e_alike, e_first_unlike, e_first_less, e_least_set, e_both, e_either, e_but, e_others, e_moved, e_z_sums_right, e_z_turned_right, e_z_moved_right, e_z_right, e_law]
def fa : List He.Fa := [.glo "never_falls", .glo "always_rises", .glo "need_number", .glo "common_divisor", .glo "prime_parts", .glo "number_at", .glo "first_numbers", .glo "comes_again", .glo "set_row", .glo "set_of_days", .glo "next_of", .glo "first_at_least", .glo "risen", .glo "_law_dl_sack", .glo "_law_dl_pick", .glo "_law_dl_has", .glo "is_ladder", .glo "is_set", .glo "common_multiple", .glo "least_length", .glo "first_of_row", .glo "unlike_day", .glo "set_of", .glo "_law_dl_length", .glo "_law_dl_set_wide", .glo "need_ladder", .glo "need_set", .glo "least_way", .glo "common_way", .glo "common_rows"] ++ [.glo "_law_dl_set", .glo "least_row", .glo "counts_of", .glo "joined_ladders", .glo "added_ladders", .glo "less_day", .glo "need_two_days", .glo "next_day", .glo "need_two_ladders", .glo "value", .glo "set_from", .glo "first_apart", .glo "meeting", .glo "counts", .glo "joined", .glo "plus", .glo "alike", .glo "first_unlike", .glo "first_less", .glo "least_set", .glo "both", .glo "either", .glo "but", .glo "others", .glo "moved", .glo "_law_dl_sums_right", .glo "_law_dl_turned_right", .glo "_law_dl_moved_right", .glo "_law_right", .glo "law"] ++ [.free "len", .free "max", .free "min", .free "abs", .free "sum", .free "all", .free "int", .free "divmod", .free "range", .free "zip", .free "enumerate", .free "repr", .free "sorted", .free "set"]
def names0 : List PySem.Str := ["copied", "DaysError", "InvalidLadder", "InvalidSet", "InvalidNumber", "never_falls", "always_rises", "is_ladder", "is_set", "need_ladder", "need_set", "need_number"]
def names1 : List PySem.Str := ["common_divisor", "common_multiple", "prime_parts", "number_at", "first_numbers", "comes_again", "least_length", "least_way", "least_row", "first_of_row", "set_row", "set_from"]
def names2 : List PySem.Str := ["set_of_days", "next_of", "counts_of", "first_at_least", "joined_ladders", "common_way", "risen", "added_ladders", "unlike_day", "less_day", "least_set", "set_of"]
def names3 : List PySem.Str := ["common_rows", "need_two", "need_two_days", "both", "either", "but", "others", "moved", "first_apart", "meeting", "next_day", "counts"]
def names4 : List PySem.Str := ["need_two_ladders", "value", "joined", "plus", "alike", "first_unlike", "first_less", "_law_dl_sack", "_law_dl_pick", "_law_dl_length", "_law_dl_set", "_law_dl_has"]
def names5 : List PySem.Str := ["_law_dl_set_wide", "_law_dl_sums_right", "_law_dl_turned_right", "_law_dl_moved_right", "_law_right"]
def names : List PySem.Str := names0 ++ names1 ++ names2 ++ names3 ++ names4 ++ names5
theorem stands {K : PySem.W.Frag} {h : Heap} {mg : Str → Option Value} (X : K.In h) (N : h.Ns mainGlobals mg) (c : He.SaysD fa fn K) : Sts K mg where
  never_falls := stands_of (c.def_ 0 (d := e_never_falls) rfl) (He.glo_ok X N (c.fact 0 (f := .glo "never_falls") rfl)) fun _ _ _ _ _ _ us hl => match us, hl with | [_], _ => rfl
  always_rises := stands_of (c.def_ 1 (d := e_always_rises) rfl) (He.glo_ok X N (c.fact 1 (f := .glo "always_rises") rfl)) fun _ _ _ _ _ _ us hl => match us, hl with | [_], _ => rfl
  need_number := stands_of (c.def_ 2 (d := e_need_number) rfl) (He.glo_ok X N (c.fact 2 (f := .glo "need_number") rfl)) fun _ _ _ _ _ _ us hl => match us, hl with | [_, _], _ => rfl
  common_divisor := stands_of (c.def_ 3 (d := e_common_divisor) rfl) (He.glo_ok X N (c.fact 3 (f := .glo "common_divisor") rfl)) fun _ _ _ _ _ _ us hl => match us, hl with | [_, _], _ => rfl
  prime_parts := stands_of (c.def_ 4 (d := e_prime_parts) rfl) (He.glo_ok X N (c.fact 4 (f := .glo "prime_parts") rfl)) fun _ _ _ _ _ _ us hl => match us, hl with | [_], _ => rfl
  number_at := stands_of (c.def_ 5 (d := e_number_at) rfl) (He.glo_ok X N (c.fact 5 (f := .glo "number_at") rfl)) fun _ _ _ _ _ _ us hl => match us, hl with | [_, _], _ => rfl
  first_numbers := stands_of (c.def_ 6 (d := e_first_numbers) rfl) (He.glo_ok X N (c.fact 6 (f := .glo "first_numbers") rfl)) fun _ _ _ _ _ _ us hl => match us, hl with | [_, _], _ => rfl
  comes_again := stands_of (c.def_ 7 (d := e_comes_again) rfl) (He.glo_ok X N (c.fact 7 (f := .glo "comes_again") rfl)) fun _ _ _ _ _ _ us hl => match us, hl with | [_, _, _], _ => rfl
  set_row := stands_of (c.def_ 8 (d := e_set_row) rfl) (He.glo_ok X N (c.fact 8 (f := .glo "set_row") rfl)) fun _ _ _ _ _ _ us hl => match us, hl with | [_], _ => rfl
  set_of_days := stands_of (c.def_ 9 (d := e_set_of_days) rfl) (He.glo_ok X N (c.fact 9 (f := .glo "set_of_days") rfl)) fun _ _ _ _ _ _ us hl => match us, hl with | [_], _ => rfl
  next_of := stands_of (c.def_ 10 (d := e_next_of) rfl) (He.glo_ok X N (c.fact 10 (f := .glo "next_of") rfl)) fun _ _ _ _ _ _ us hl => match us, hl with | [_, _], _ => rfl
  first_at_least := stands_of (c.def_ 11 (d := e_first_at_least) rfl) (He.glo_ok X N (c.fact 11 (f := .glo "first_at_least") rfl)) fun _ _ _ _ _ _ us hl => match us, hl with | [_, _], _ => rfl
  risen := stands_of (c.def_ 12 (d := e_risen) rfl) (He.glo_ok X N (c.fact 12 (f := .glo "risen") rfl)) fun _ _ _ _ _ _ us hl => match us, hl with | [_, _], _ => rfl
  z_sack := stands_of (c.def_ 13 (d := e_z_sack) rfl) (He.glo_ok X N (c.fact 13 (f := .glo "_law_dl_sack") rfl)) fun _ _ _ _ _ _ us hl => match us, hl with | [_, _], _ => rfl
  z_pick := stands_of (c.def_ 14 (d := e_z_pick) rfl) (He.glo_ok X N (c.fact 14 (f := .glo "_law_dl_pick") rfl)) fun _ _ _ _ _ _ us hl => match us, hl with | [_, _], _ => rfl
  z_has := stands_of (c.def_ 15 (d := e_z_has) rfl) (He.glo_ok X N (c.fact 15 (f := .glo "_law_dl_has") rfl)) fun _ _ _ _ _ _ us hl => match us, hl with | [_, _], _ => rfl
  is_ladder := stands_of (c.def_ 16 (d := e_is_ladder) rfl) (He.glo_ok X N (c.fact 16 (f := .glo "is_ladder") rfl)) fun _ _ _ _ _ _ us hl => match us, hl with | [_], _ => rfl
  is_set := stands_of (c.def_ 17 (d := e_is_set) rfl) (He.glo_ok X N (c.fact 17 (f := .glo "is_set") rfl)) fun _ _ _ _ _ _ us hl => match us, hl with | [_], _ => rfl
  common_multiple := stands_of (c.def_ 18 (d := e_common_multiple) rfl) (He.glo_ok X N (c.fact 18 (f := .glo "common_multiple") rfl)) fun _ _ _ _ _ _ us hl => match us, hl with | [_, _], _ => rfl
  least_length := stands_of (c.def_ 19 (d := e_least_length) rfl) (He.glo_ok X N (c.fact 19 (f := .glo "least_length") rfl)) fun _ _ _ _ _ _ us hl => match us, hl with | [_, _], _ => rfl
  first_of_row := stands_of (c.def_ 20 (d := e_first_of_row) rfl) (He.glo_ok X N (c.fact 20 (f := .glo "first_of_row") rfl)) fun _ _ _ _ _ _ us hl => match us, hl with | [_, _], _ => rfl
  unlike_day := stands_of (c.def_ 21 (d := e_unlike_day) rfl) (He.glo_ok X N (c.fact 21 (f := .glo "unlike_day") rfl)) fun _ _ _ _ _ _ us hl => match us, hl with | [_, _], _ => rfl
  set_of := stands_of (c.def_ 22 (d := e_set_of) rfl) (He.glo_ok X N (c.fact 22 (f := .glo "set_of") rfl)) fun _ _ _ _ _ _ us hl => match us, hl with | [_], _ => rfl
  z_length := stands_of (c.def_ 23 (d := e_z_length) rfl) (He.glo_ok X N (c.fact 23 (f := .glo "_law_dl_length") rfl)) fun _ _ _ _ _ _ us hl => match us, hl with | [_, _], _ => rfl
  z_set_wide := stands_of (c.def_ 24 (d := e_z_set_wide) rfl) (He.glo_ok X N (c.fact 24 (f := .glo "_law_dl_set_wide") rfl)) fun _ _ _ _ _ _ us hl => match us, hl with | [_, _, _], _ => rfl
  need_ladder := stands_of (c.def_ 25 (d := e_need_ladder) rfl) (He.glo_ok X N (c.fact 25 (f := .glo "need_ladder") rfl)) fun _ _ _ _ _ _ us hl => match us, hl with | [_], _ => rfl
  need_set := stands_of (c.def_ 26 (d := e_need_set) rfl) (He.glo_ok X N (c.fact 26 (f := .glo "need_set") rfl)) fun _ _ _ _ _ _ us hl => match us, hl with | [_], _ => rfl
  least_way := stands_of (c.def_ 27 (d := e_least_way) rfl) (He.glo_ok X N (c.fact 27 (f := .glo "least_way") rfl)) fun _ _ _ _ _ _ us hl => match us, hl with | [_], _ => rfl
  common_way := stands_of (c.def_ 28 (d := e_common_way) rfl) (He.glo_ok X N (c.fact 28 (f := .glo "common_way") rfl)) fun _ _ _ _ _ _ us hl => match us, hl with | [_, _], _ => rfl
  common_rows := stands_of (c.def_ 29 (d := e_common_rows) rfl) (He.glo_ok X N (c.fact 29 (f := .glo "common_rows") rfl)) fun _ _ _ _ _ _ us hl => match us, hl with | [_, _], _ => rfl
  z_set := stands_of (c.def_ 30 (d := e_z_set) rfl) (He.glo_ok X N (c.fact 30 (f := .glo "_law_dl_set") rfl)) fun _ _ _ _ _ _ us hl => match us, hl with | [_, _], _ => rfl
  least_row := stands_of (c.def_ 31 (d := e_least_row) rfl) (He.glo_ok X N (c.fact 31 (f := .glo "least_row") rfl)) fun _ _ _ _ _ _ us hl => match us, hl with | [_], _ => rfl
  counts_of := stands_of (c.def_ 32 (d := e_counts_of) rfl) (He.glo_ok X N (c.fact 32 (f := .glo "counts_of") rfl)) fun _ _ _ _ _ _ us hl => match us, hl with | [_], _ => rfl
  joined_ladders := stands_of (c.def_ 33 (d := e_joined_ladders) rfl) (He.glo_ok X N (c.fact 33 (f := .glo "joined_ladders") rfl)) fun _ _ _ _ _ _ us hl => match us, hl with | [_, _], _ => rfl
  added_ladders := stands_of (c.def_ 34 (d := e_added_ladders) rfl) (He.glo_ok X N (c.fact 34 (f := .glo "added_ladders") rfl)) fun _ _ _ _ _ _ us hl => match us, hl with | [_, _], _ => rfl
  less_day := stands_of (c.def_ 35 (d := e_less_day) rfl) (He.glo_ok X N (c.fact 35 (f := .glo "less_day") rfl)) fun _ _ _ _ _ _ us hl => match us, hl with | [_, _], _ => rfl
  need_two_days := stands_of (c.def_ 36 (d := e_need_two_days) rfl) (He.glo_ok X N (c.fact 36 (f := .glo "need_two_days") rfl)) fun _ _ _ _ _ _ us hl => match us, hl with | [_, _], _ => rfl
  next_day := stands_of (c.def_ 37 (d := e_next_day) rfl) (He.glo_ok X N (c.fact 37 (f := .glo "next_day") rfl)) fun _ _ _ _ _ _ us hl => match us, hl with | [_, _], _ => rfl
  need_two_ladders := stands_of (c.def_ 38 (d := e_need_two_ladders) rfl) (He.glo_ok X N (c.fact 38 (f := .glo "need_two_ladders") rfl)) fun _ _ _ _ _ _ us hl => match us, hl with | [_, _], _ => rfl
  value := stands_of (c.def_ 39 (d := e_value) rfl) (He.glo_ok X N (c.fact 39 (f := .glo "value") rfl)) fun _ _ _ _ _ _ us hl => match us, hl with | [_, _], _ => rfl
  set_from := stands_of (c.def_ 40 (d := e_set_from) rfl) (He.glo_ok X N (c.fact 40 (f := .glo "set_from") rfl)) fun _ _ _ _ _ _ us hl => match us, hl with | [_], _ => rfl
  first_apart := stands_of (c.def_ 41 (d := e_first_apart) rfl) (He.glo_ok X N (c.fact 41 (f := .glo "first_apart") rfl)) fun _ _ _ _ _ _ us hl => match us, hl with | [_, _], _ => rfl
  meeting := stands_of (c.def_ 42 (d := e_meeting) rfl) (He.glo_ok X N (c.fact 42 (f := .glo "meeting") rfl)) fun _ _ _ _ _ _ us hl => match us, hl with | [_, _], _ => rfl
  counts := stands_of (c.def_ 43 (d := e_counts) rfl) (He.glo_ok X N (c.fact 43 (f := .glo "counts") rfl)) fun _ _ _ _ _ _ us hl => match us, hl with | [_], _ => rfl
  joined := stands_of (c.def_ 44 (d := e_joined) rfl) (He.glo_ok X N (c.fact 44 (f := .glo "joined") rfl)) fun _ _ _ _ _ _ us hl => match us, hl with | [_, _], _ => rfl
  plus := stands_of (c.def_ 45 (d := e_plus) rfl) (He.glo_ok X N (c.fact 45 (f := .glo "plus") rfl)) fun _ _ _ _ _ _ us hl => match us, hl with | [_, _], _ => rfl
  alike := stands_of (c.def_ 46 (d := e_alike) rfl) (He.glo_ok X N (c.fact 46 (f := .glo "alike") rfl)) fun _ _ _ _ _ _ us hl => match us, hl with | [_, _], _ => rfl
  first_unlike := stands_of (c.def_ 47 (d := e_first_unlike) rfl) (He.glo_ok X N (c.fact 47 (f := .glo "first_unlike") rfl)) fun _ _ _ _ _ _ us hl => match us, hl with | [_, _], _ => rfl
  first_less := stands_of (c.def_ 48 (d := e_first_less) rfl) (He.glo_ok X N (c.fact 48 (f := .glo "first_less") rfl)) fun _ _ _ _ _ _ us hl => match us, hl with | [_, _], _ => rfl
  least_set := stands_of (c.def_ 49 (d := e_least_set) rfl) (He.glo_ok X N (c.fact 49 (f := .glo "least_set") rfl)) fun _ _ _ _ _ _ us hl => match us, hl with | [_], _ => rfl
  both := stands_of (c.def_ 50 (d := e_both) rfl) (He.glo_ok X N (c.fact 50 (f := .glo "both") rfl)) fun _ _ _ _ _ _ us hl => match us, hl with | [_, _], _ => rfl
  either := stands_of (c.def_ 51 (d := e_either) rfl) (He.glo_ok X N (c.fact 51 (f := .glo "either") rfl)) fun _ _ _ _ _ _ us hl => match us, hl with | [_, _], _ => rfl
  but := stands_of (c.def_ 52 (d := e_but) rfl) (He.glo_ok X N (c.fact 52 (f := .glo "but") rfl)) fun _ _ _ _ _ _ us hl => match us, hl with | [_, _], _ => rfl
  others := stands_of (c.def_ 53 (d := e_others) rfl) (He.glo_ok X N (c.fact 53 (f := .glo "others") rfl)) fun _ _ _ _ _ _ us hl => match us, hl with | [_], _ => rfl
  moved := stands_of (c.def_ 54 (d := e_moved) rfl) (He.glo_ok X N (c.fact 54 (f := .glo "moved") rfl)) fun _ _ _ _ _ _ us hl => match us, hl with | [_, _], _ => rfl
  z_sums_right := stands_of (c.def_ 55 (d := e_z_sums_right) rfl) (He.glo_ok X N (c.fact 55 (f := .glo "_law_dl_sums_right") rfl)) fun _ _ _ _ _ _ us hl => match us, hl with | [_, _], _ => rfl
  z_turned_right := stands_of (c.def_ 56 (d := e_z_turned_right) rfl) (He.glo_ok X N (c.fact 56 (f := .glo "_law_dl_turned_right") rfl)) fun _ _ _ _ _ _ us hl => match us, hl with | [_, _], _ => rfl
  z_moved_right := stands_of (c.def_ 57 (d := e_z_moved_right) rfl) (He.glo_ok X N (c.fact 57 (f := .glo "_law_dl_moved_right") rfl)) fun _ _ _ _ _ _ us hl => match us, hl with | [_, _], _ => rfl
  z_right := stands_of (c.def_ 58 (d := e_z_right) rfl) (He.glo_ok X N (c.fact 58 (f := .glo "_law_right") rfl)) fun _ _ _ _ _ _ us hl => match us, hl with | [_], _ => rfl
  law := stands_of (c.def_ 59 (d := e_law) rfl) (He.glo_ok X N (c.fact 59 (f := .glo "law") rfl)) fun _ _ _ _ _ _ us hl => match us, hl with | [_], _ => rfl
theorem free {K : PySem.W.Frag} {h : Heap} {mg : Str → Option Value} (X : K.In h) (N : h.Ns mainGlobals mg) (c : He.SaysD fa fn K) : Txt mg where
  len := He.free_ok X N (c.fact 60 (f := .free "len") rfl)
  max := He.free_ok X N (c.fact 61 (f := .free "max") rfl)
  min := He.free_ok X N (c.fact 62 (f := .free "min") rfl)
  abs := He.free_ok X N (c.fact 63 (f := .free "abs") rfl)
  sum := He.free_ok X N (c.fact 64 (f := .free "sum") rfl)
  all := He.free_ok X N (c.fact 65 (f := .free "all") rfl)
  int := He.free_ok X N (c.fact 66 (f := .free "int") rfl)
  divmod := He.free_ok X N (c.fact 67 (f := .free "divmod") rfl)
  range := He.free_ok X N (c.fact 68 (f := .free "range") rfl)
  zip := He.free_ok X N (c.fact 69 (f := .free "zip") rfl)
  enumerate := He.free_ok X N (c.fact 70 (f := .free "enumerate") rfl)
  repr := He.free_ok X N (c.fact 71 (f := .free "repr") rfl)
  sorted := He.free_ok X N (c.fact 72 (f := .free "sorted") rfl)
  set := He.free_ok X N (c.fact 73 (f := .free "set") rfl)
end LD
/-! Run: the top's run by the heap as a tree. -/
namespace LD
open PySem PySem.Spec PyProof.Rows L2
abbrev R : PySem.W.OpenRow := PySem.W.OpenLaw.row PySem.Challenge.rw_ladderdays_k13_whole_sets_by_ladders
abbrev hk : PySem.W.Hook := He.hookD 4 fa fn
def ob (s : PySem.W.SharedT) : He.AlD := He.obsDG 4 fa fn (HandSHeadRun.getT s)
theorem ob_eq (s : PySem.W.SharedT) : ob s = hk.obs s.abs := He.obsDG_eq (HandSHeadRun.getT_eq s)
theorem run (w : World) : HandSHeadRun.RunEq R (PySem.W.view R.prog [73]) hk ob 6000 names w := by
  intro os
  kernel_rfl
end LD
/-! Fin: the law holds. -/
open PySem PySem.W PySem.Calls PyProof.Rows
theorem PySem.Challenge.cw_ladderdays_k13_whole_sets_by_ladders_holds : PySem.Challenge.rw_ladderdays_k13_whole_sets_by_ladders.Holds := by
  w_on; o_law
  refine HandSHeadRun.head_any (r := OpenLaw.row PySem.Challenge.rw_ladderdays_k13_whole_sets_by_ladders) (q := view (OpenLaw.row PySem.Challenge.rw_ladderdays_k13_whole_sets_by_ladders).prog [73]) (H := LD.hk) (ob := LD.ob) (M := 6000) (loose := LD.names) (d := HandSHeadRun.topDef (OpenLaw.row PySem.Challenge.rw_ladderdays_k13_whole_sets_by_ladders).prog 73) (kwd := []) LD.ob_eq
    (by kernel_rfl) (fun s => by kernel_rfl) LD.run (by kernel_rfl) (by kernel_rfl) (by kernel_rfl) (by rfl) (by first | assumption | decide +kernel) (by decide +kernel) ⟨rfl, rfl, rfl, rfl, rfl, by decide +kernel⟩ ?hw ?hc
  case hw => w_witness2
  case hc =>
    refine LD.walk_end (l := PySem.Challenge.rw_ladderdays_k13_whole_sets_by_ladders) (n := 63) (k := 9) (x := "_law_script") rfl (by decide) (by kernel_rfl) ⟨rfl, by decide, by decide⟩ ?F
    intro w mg fa h Y G hmg0
    obtain ⟨K, KX, c⟩ := Y
    have hmg : mg ("law" : PySem.Str) = some (.ref fa) := by
      have e : (HandSHeadRun.topDef (OpenLaw.row PySem.Challenge.rw_ladderdays_k13_whole_sets_by_ladders).prog 73).name = ("law" : PySem.Str) := by kernel_rfl
      rw [← e]
      exact hmg0
    obtain ⟨fd, FD⟩ := c.def_ 59 (d := LD.e_law) rfl
    have e := hmg.symm.trans (He.glo_ok KX G (c.fact 59 (f := .glo "law") rfl))
    cases e
    have b := L2.FunD.bindsA (ps := ["_law_script"]) FD fun _ _ _ _ _ _ us hl => match us, hl with | [_], _ => rfl
    exact ⟨K, fd, KX, fun s v => b s [v] rfl, fun base _ _ => LD.chain (LD.free KX G c) (LD.stands KX G c) (LD.fun_of FD)⟩
