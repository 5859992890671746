import PyProof.Rows.All
import Wide.All
import OpenK.AllK
import Wide.FinOn
import HandS.ForMost
import HandS.Exc
import HandS.WordsExc
import HandS.Defaults
import HandS.IsInst
import HandS.Wide
import HandS.Deep
import KE.KStateDown
import HandS.Ends
import HandS.More
import HandS.Head0
import HandS.Head1
import HandS.Head2
import HandS.HeadEnd
import HandS.HeadHook1
import HandS.HeadHook2
import PySem.Challenge.RW_knewby_k01_hours_and_names
set_option Elab.async false
set_option linter.all false
set_option maxRecDepth 100000
set_option maxHeartbeats 4000000
/-! Fw1: values described by what a heap holds; the judgements over them. -/
namespace Kn
open PySem PySem.Spec PyProof.Rows L2

/-! ### heaps that grow -/
def Gw (H H' : Hp) : Prop := ∀ a o, H a = some o → H' a = some o
theorem Gw.refl (H : Hp) : Gw H H := fun _ _ h => h
theorem Gw.trans {H H1 H2 : Hp} (a : Gw H H1) (b : Gw H1 H2) : Gw H H2 := fun x o h => b x o (a x o h)
theorem Gw.new {H : Hp} {p : Addr} {o : HO} (h : H p = none) : Gw H (upd H p o) := fun a u e => by
  rw [upd_ne (ne_of_none e h)]
  exact e
theorem Gw.free {H H' : Hp} (e : Gw H H') {p : Addr} (h : H' p = none) : H p = none := by
  cases q : H p with
  | none => rfl
  | some o => rw [e p o q] at h; cases h
theorem Gw.upd {H H' : Hp} (e : Gw H H') {p : Addr} {o : HO} (h : H' p = none) : Gw (upd H p o) (upd H' p o) := fun a u q => by
  by_cases ha : a = p
  · subst ha; rw [upd_same] at q ⊢; exact q
  · rw [upd_ne ha] at q ⊢; exact e a u q
theorem gw_rd {H H' : Hp} {a : Addr} {u : HO} (e : Gw H H') (h : Rd H a u) : Rd H' a u := by
  rcases h with h | ⟨o, h⟩
  · exact Or.inl (e a _ h)
  · exact Or.inr ⟨o, e a _ h⟩
theorem gw_l {K : PySem.W.Frag} {H H' : Hp} {a : Addr} {xs : List V} (e : Gw H H') (h : SqL K H a xs) : SqL K H' a xs := by
  rcases h with h | h
  · exact Or.inl (gw_rd e h)
  · exact Or.inr h
theorem gw_t {K : PySem.W.Frag} {H H' : Hp} {a : Addr} {xs : List V} (e : Gw H H') (h : SqT K H a xs) : SqT K H' a xs := by
  rcases h with h | h
  · exact Or.inl (gw_rd e h)
  · exact Or.inr h

/-! ### descriptions -/
structure D where
  ok : Hp → V → Prop
  mono : ∀ {F F' : Hp} {v : V}, Gw F F' → ok F v → ok F' v
def dV (v : V) : D := ⟨fun _ u => u = v, fun _ h => h⟩
abbrev dN : D := dV .non
abbrev dI (i : Int) : D := dV (.int i)
abbrev dB (b : Bool) : D := dV (.bl b)
/-- texts as they come up: of signs that are signs, not too long -/
def okS (s : Str) : Prop := PyData.strOk s = true ∧ s.length ≤ sizeLine
def okSb (s : Str) : Bool := PyData.strOk s && decide (s.length ≤ 16777216)
theorem okS_of {s : Str} (h : okSb s = true) : okS s := by
  unfold okSb at h
  simp only [Bool.and_eq_true, decide_eq_true_eq] at h
  exact ⟨h.1, by rw [sizeLine_eq]; exact h.2⟩
def dS (s : Str) : D := ⟨fun _ v => v = .str s ∧ okS s, fun _ h => h⟩
theorem strOk_iff {s : Str} : PyData.strOk s = true ↔ ∀ c ∈ s.cps.toList, c < 0x110000 := by
  unfold PyData.strOk
  rw [Array.all_eq_true']
  constructor
  · intro h c hc
    exact of_decide_eq_true (h c (Array.mem_toList_iff.mp hc))
  · intro h c hc
    exact decide_eq_true (h c (Array.mem_toList_iff.mpr hc))
theorem okS_app {i j : Str} (hi : okS i) (hj : okS j) (hl : i.length + j.length ≤ sizeLine) : okS (i ++ j) := by
  have e : (i ++ j).cps.toList = i.cps.toList ++ j.cps.toList := by
    show (i.cps ++ j.cps).toList = _
    exact Array.toList_append
  refine ⟨strOk_iff.mpr fun c hc => ?_, ?_⟩
  · rw [e] at hc
    rcases List.mem_append.mp hc with h | h
    · exact strOk_iff.mp hi.1 c h
    · exact strOk_iff.mp hj.1 c h
  · show (i.cps ++ j.cps).size ≤ _
    rw [Array.size_append]
    exact hl
theorem okS_sign {z : Str} {c : Nat} (hz : okS z) (hc : c ∈ z.cps.toList) : okS ⟨#[c]⟩ := by
  refine ⟨strOk_iff.mpr fun d hd => ?_, ?_⟩
  · have e : d = c := by simpa using hd
    rw [e]
    exact strOk_iff.mp hz.1 c hc
  · rw [sizeLine_eq]
    exact Nat.le_of_ble_eq_true rfl
abbrev dP (a : Addr) : D := dV (.ref a)
def AllD (F : Hp) : List D → List V → Prop
  | [], [] => True
  | d :: ds, v :: vs => d.ok F v ∧ AllD F ds vs
  | _, _ => False
theorem AllD.mono {F F' : Hp} (e : Gw F F') : ∀ {ds : List D} {vs : List V}, AllD F ds vs → AllD F' ds vs
  | [], [], _ => trivial
  | _ :: _, _ :: _, h => ⟨D.mono _ e h.1, AllD.mono e h.2⟩
  | [], _ :: _, h => h.elim
  | _ :: _, [], h => h.elim
theorem AllD.length {F : Hp} : ∀ {ds : List D} {vs : List V}, AllD F ds vs → vs.length = ds.length
  | [], [], _ => rfl
  | _ :: _, _ :: _, h => by simp [AllD.length h.2]
  | [], _ :: _, h => h.elim
  | _ :: _, [], h => h.elim
theorem AllD.get {F : Hp} : ∀ {ds : List D} {vs : List V} {i : Nat} {d : D}, AllD F ds vs → ds[i]? = some d → ∃ v, vs[i]? = some v ∧ d.ok F v
  | [], [], _, _, _, e => by simp at e
  | _ :: _, v :: _, 0, _, h, e => by simp at e; subst e; exact ⟨v, rfl, h.1⟩
  | _ :: _, _ :: _, i + 1, d, h, e => by
    obtain ⟨v, h1, h2⟩ := AllD.get (i := i) (d := d) h.2 (by simpa using e)
    exact ⟨v, by simpa using h1, h2⟩
  | [], _ :: _, _, _, h, _ => h.elim
  | _ :: _, [], _, _, h, _ => h.elim
theorem AllD.getV {F : Hp} : ∀ {ds : List D} {vs : List V} {i : Nat} {v : V}, AllD F ds vs → vs[i]? = some v → ∃ d, ds[i]? = some d ∧ d.ok F v
  | [], [], _, _, _, e => by simp at e
  | d :: _, _ :: _, 0, _, h, e => by simp at e; subst e; exact ⟨d, rfl, h.1⟩
  | _ :: _, _ :: _, i + 1, d, h, e => by
    obtain ⟨v, h1, h2⟩ := AllD.getV (i := i) (v := d) h.2 (by simpa using e)
    exact ⟨v, by simpa using h1, h2⟩
  | [], _ :: _, _, _, h, _ => h.elim
  | _ :: _, [], _, _, h, _ => h.elim
theorem AllD.append {F : Hp} : ∀ {ds es : List D} {vs us : List V}, AllD F ds vs → AllD F es us → AllD F (ds ++ es) (vs ++ us)
  | [], _, [], _, _, q => q
  | _ :: _, _, _ :: _, _, h, q => ⟨h.1, AllD.append h.2 q⟩
  | [], _, _ :: _, _, h, _ => h.elim
  | _ :: _, _, [], _, h, _ => h.elim
theorem AllD.drop {F : Hp} : ∀ {ds : List D} {vs : List V} (n : Nat), AllD F ds vs → AllD F (ds.drop n) (vs.drop n)
  | _, _, 0, h => h
  | [], [], _ + 1, h => h
  | _ :: _, _ :: _, n + 1, h => AllD.drop n h.2
  | [], _ :: _, _, h => h.elim
  | _ :: _, [], _, h => h.elim
theorem AllD.take {F : Hp} : ∀ {ds : List D} {vs : List V} (n : Nat), AllD F ds vs → AllD F (ds.take n) (vs.take n)
  | _, _, 0, _ => trivial
  | [], [], _ + 1, h => h
  | _ :: _, _ :: _, n + 1, h => ⟨h.1, AllD.take n h.2⟩
  | [], _ :: _, _, h => h.elim
  | _ :: _, [], _, h => h.elim
theorem AllD.set {F : Hp} {d : D} {v : V} (q : d.ok F v) : ∀ {ds : List D} {vs : List V} (n : Nat), AllD F ds vs → AllD F (ds.set n d) (vs.set n v)
  | [], [], _, h => h
  | _ :: _, _ :: _, 0, h => ⟨q, h.2⟩
  | _ :: _, _ :: _, n + 1, h => ⟨h.1, AllD.set q n h.2⟩
  | [], _ :: _, _, h => h.elim
  | _ :: _, [], _, h => h.elim
theorem AllD.rev {F : Hp} : ∀ {ds : List D} {vs : List V}, AllD F ds vs → AllD F ds.reverse vs.reverse
  | [], [], h => h
  | _ :: _, _ :: _, h => by rw [List.reverse_cons, List.reverse_cons]; exact AllD.append (AllD.rev h.2) ⟨h.1, trivial⟩
  | [], _ :: _, h => h.elim
  | _ :: _, [], h => h.elim
theorem AllD.dV {F : Hp} : ∀ {xs vs : List V}, AllD F (xs.map dV) vs → vs = xs
  | [], [], _ => rfl
  | x :: xs, v :: vs, h => by
    have h1 : v = x := h.1
    rw [h1, AllD.dV (xs := xs) (vs := vs) h.2]
  | [], _ :: _, h => h.elim
  | _ :: _, [], h => h.elim
theorem AllD.dS {F : Hp} : ∀ {xs : List Str} {vs : List V}, AllD F (xs.map Kn.dS) vs → vs = xs.map V.str ∧ ∀ s ∈ xs, okS s
  | [], [], _ => ⟨rfl, fun _ h => nomatch h⟩
  | x :: xs, v :: vs, h => by
    have h1 : v = .str x ∧ okS x := h.1
    obtain ⟨h2, h3⟩ := AllD.dS (xs := xs) (vs := vs) h.2
    rw [h1.1, h2]
    refine ⟨rfl, fun s hs => ?_⟩
    rcases List.mem_cons.mp hs with rfl | hs
    · exact h1.2
    · exact h3 s hs
  | [], _ :: _, h => h.elim
  | _ :: _, [], h => h.elim
theorem allD_dS {F : Hp} : ∀ (xs : List Str), (∀ s ∈ xs, okS s) → AllD F (xs.map Kn.dS) (xs.map V.str)
  | [], _ => trivial
  | x :: xs, h => ⟨⟨rfl, h x List.mem_cons_self⟩, allD_dS xs fun s hs => h s (List.mem_cons_of_mem _ hs)⟩
theorem allD_dV {F : Hp} : ∀ (xs : List V), AllD F (xs.map dV) xs
  | [] => trivial
  | _ :: xs => ⟨rfl, allD_dV xs⟩

/-- a tuple, a list that stays as it is -/
def dTup (K : PySem.W.Frag) (ds : List D) : D := ⟨fun F u => ∃ a vs, u = .ref a ∧ SqT K F a vs ∧ AllD F ds vs, fun e ⟨a, vs, h1, h2, h3⟩ => ⟨a, vs, h1, gw_t e h2, AllD.mono e h3⟩⟩
/-- a list: one that the heap tells, or one that the module holds -/
def LsA (K : PySem.W.Frag) (F : Hp) (a : Addr) (xs : List V) : Prop := Rd F a (.lst xs) ∨ ∃ (its : Array Value) (n : Nat), K.lookup a = some { cls := .type "list", data := .seq its n } ∧ its.size ≤ sizeLine ∧ Vals xs its.toList
theorem LsA.mono {K : PySem.W.Frag} {F F' : Hp} {a : Addr} {xs : List V} (e : Gw F F') (h : LsA K F a xs) : LsA K F' a xs := h.imp (gw_rd e) id
theorem LsA.sq {K : PySem.W.Frag} {F : Hp} {a : Addr} {xs : List V} (h : LsA K F a xs) : SqL K F a xs := by
  rcases h with h | ⟨its, n, h1, h2, h3⟩
  · exact .inl h
  · exact .inr ⟨_, its, n, h1, rfl, rfl, rfl, h2, h3⟩
theorem LsA.get {X : Cx} {pins : List (Addr × Obj)} {σ : L2.St} {H : Hp} {s : Shared} {a : Addr} {xs : List V} (I : Inv X pins σ H s) (h : LsA X.K H a xs) : ∃ (its : List Value) (n : Nat), Vals xs its ∧ s.heap.get? a = some { cls := .type "list", data := .seq its.toArray n } ∧ xs.length ≤ sizeLine := by
  rcases h with h | ⟨its, n, h1, h2, h3⟩
  · obtain ⟨z, its, n, r, e⟩ := h.ok I.hok
    exact ⟨its, n, r, e, z⟩
  · refine ⟨its.toList, n, h3, I.kIn a _ h1, ?_⟩
    have e := h3.length
    rw [e, Array.length_toList]
    exact h2
def dLst (K : PySem.W.Frag) (ds : List D) : D := ⟨fun F u => ∃ a vs, u = .ref a ∧ LsA K F a vs ∧ AllD F ds vs, fun e ⟨a, vs, h1, h2, h3⟩ => ⟨a, vs, h1, h2.mono e, AllD.mono e h3⟩⟩
/-- nothing, or something described -/
def dO {α : Type} (f : α → D) : Option α → D
  | none => dN
  | some a => f a

/-! ### objects of one's own: they may change -/
structure OD where
  ok : Hp → HO → Prop
  mono : ∀ {F F' : Hp} {o : HO}, Gw F F' → ok F o → ok F' o
def oLst (ds : List D) : OD := ⟨fun F o => ∃ vs, o = .lst vs ∧ AllD F ds vs, fun e ⟨vs, h1, h2⟩ => ⟨vs, h1, AllD.mono e h2⟩⟩
abbrev Own := List (Addr × OD)

/-- the heap: F is frozen, the objects at O are one's own -/
structure HoldO (F : Hp) (O : Own) (H : Hp) : Prop where
  ex : Gw F H
  nd : (O.map (·.1)).Nodup
  ow : ∀ q ∈ O, F q.1 = none ∧ ∃ o, H q.1 = some o ∧ q.2.ok F o
/-- the slots -/
abbrev Fr := List (Option D)
def FrOk (F : Hp) (Γ : Fr) (σ : L2.St) : Prop := Γ.length = σ.length ∧ ∀ (i : Nat) (d : D), Γ[i]? = some (some d) → ∃ v, σ[i]? = some (some v) ∧ d.ok F v
structure Hold (F : Hp) (Γ : Fr) (O : Own) (σ : L2.St) (H : Hp) : Prop where
  fr : FrOk F Γ σ
  ho : HoldO F O H

theorem FrOk.mono {F F' : Hp} {Γ : Fr} {σ : L2.St} (e : Gw F F') (h : FrOk F Γ σ) : FrOk F' Γ σ := ⟨h.1, fun i d q => by
  obtain ⟨v, h1, h2⟩ := h.2 i d q
  exact ⟨v, h1, d.mono e h2⟩⟩
theorem FrOk.set {F : Hp} {Γ : Fr} {σ : L2.St} {d : D} {v : V} (i : Nat) (h : FrOk F Γ σ) (q : d.ok F v) : FrOk F (Γ.set i (some d)) (σ.set i (some v)) := by
  refine ⟨by rw [List.length_set, List.length_set]; exact h.1, fun j e z => ?_⟩
  by_cases hj : i = j
  · subst hj
    by_cases hi : i < Γ.length
    · rw [List.getElem?_set_self hi] at z
      cases z
      exact ⟨v, by rw [List.getElem?_set_self (by rw [← h.1]; exact hi)], q⟩
    · rw [List.getElem?_eq_none (by rw [List.length_set]; omega)] at z
      cases z
  · rw [List.getElem?_set_ne hj] at z ⊢
    exact h.2 j e z
/-- a frozen object is laid -/
theorem HoldO.laid {F : Hp} {O : Own} {H : Hp} {p : Addr} {o : HO} (h : HoldO F O H) (hp : H p = none) : HoldO (upd F p o) O (upd H p o) ∧ Gw F (upd F p o) := by
  have hf := h.ex.free hp
  have ef : Gw F (upd F p o) := Gw.new hf
  refine ⟨⟨h.ex.upd hp, h.nd, fun q hq => ?_⟩, ef⟩
  obtain ⟨h1, u, h2, h3⟩ := h.ow q hq
  have hne : q.1 ≠ p := ne_of_none h2 hp
  exact ⟨by rw [upd_ne hne]; exact h1, u, by rw [upd_ne hne]; exact h2, q.2.mono ef h3⟩
/-- an object of one's own is laid -/
theorem HoldO.own {F : Hp} {O : Own} {H : Hp} {p : Addr} {o : HO} {od : OD} (h : HoldO F O H) (hp : H p = none) (ho : od.ok F o) : HoldO F ((p, od) :: O) (upd H p o) := by
  have hf := h.ex.free hp
  refine ⟨h.ex.trans (Gw.new hp), ?_, fun q hq => ?_⟩
  · rw [List.map_cons, List.nodup_cons]
    refine ⟨fun hm => ?_, h.nd⟩
    obtain ⟨q, hq, e⟩ := List.mem_map.mp hm
    obtain ⟨_, u, h2, _⟩ := h.ow q hq
    have e' : q.1 = p := e
    rw [e', hp] at h2
    cases h2
  · rcases List.mem_cons.mp hq with rfl | hq
    · exact ⟨hf, o, upd_same, ho⟩
    · obtain ⟨h1, u, h2, h3⟩ := h.ow q hq
      exact ⟨h1, u, by rw [upd_ne (ne_of_none h2 hp)]; exact h2, h3⟩
/-- an object of one's own stays as it is from now on -/
theorem HoldO.freeze {F : Hp} {O : Own} {H : Hp} {p : Addr} {od : OD} (h : HoldO F ((p, od) :: O) H) : ∃ o, H p = some o ∧ od.ok F o ∧ Gw F (upd F p o) ∧ HoldO (upd F p o) O H := by
  obtain ⟨hf, o, hp, ho⟩ := h.ow (p, od) List.mem_cons_self
  have hn := List.nodup_cons.mp h.nd
  refine ⟨o, hp, ho, Gw.new hf, ⟨fun a u q => ?_, hn.2, fun q hq => ?_⟩⟩
  · by_cases ha : a = p
    · subst ha; rw [upd_same] at q; rw [← q]; exact hp
    · rw [upd_ne ha] at q; exact h.ex a u q
  · obtain ⟨h1, u, h2, h3⟩ := h.ow q (List.mem_cons_of_mem _ hq)
    have hne : q.1 ≠ p := fun e => hn.1 (List.mem_map.mpr ⟨q, hq, e⟩)
    exact ⟨by rw [upd_ne hne]; exact h1, u, h2, q.2.mono (Gw.new hf) h3⟩
theorem HoldO.drop {F : Hp} {O : Own} {H : Hp} {c : Addr × OD} (h : HoldO F (c :: O) H) : HoldO F O H :=
  ⟨h.ex, (List.nodup_cons.mp h.nd).2, fun q hq => h.ow q (List.mem_cons_of_mem _ hq)⟩
theorem HoldO.at {F : Hp} {O : Own} {H : Hp} {p : Addr} {od : OD} (h : HoldO F O H) {k : Nat} (hk : O[k]? = some (p, od)) : F p = none ∧ ∃ o, H p = some o ∧ od.ok F o := h.ow (p, od) (List.mem_of_getElem? hk)
/-- the object at the k-th place of one's own is changed -/
theorem HoldO.write {F : Hp} {O : Own} {H : Hp} {p : Addr} {od od' : OD} {o' : HO} (h : HoldO F O H) {k : Nat} (hk : O[k]? = some (p, od)) (ho : od'.ok F o') : HoldO F (O.set k (p, od')) (upd H p o') := by
  obtain ⟨hf, o, hp, _⟩ := h.at hk
  obtain ⟨hlt, hge⟩ := List.getElem?_eq_some_iff.mp hk
  have em : (O.set k (p, od')).map (·.1) = O.map (·.1) := by
    rw [List.map_set]
    refine List.ext_getElem? fun i => ?_
    by_cases hi : k = i
    · subst hi
      rw [List.getElem?_set_self (by rw [List.length_map]; exact hlt), List.getElem?_map, hk]
      rfl
    · rw [List.getElem?_set_ne hi]
  refine ⟨fun a u q => ?_, by rw [em]; exact h.nd, fun q hq => ?_⟩
  · rw [upd_ne (ne_of_none q hf)]; exact h.ex a u q
  · obtain ⟨i, hi, e⟩ := List.mem_iff_getElem.mp hq
    rw [List.length_set] at hi
    rw [List.getElem_set] at e
    by_cases hik : k = i
    · rw [if_pos hik] at e
      subst e
      exact ⟨hf, o', upd_same, ho⟩
    · rw [if_neg hik] at e
      subst e
      obtain ⟨h1, u, h2, h3⟩ := h.ow O[i] (List.getElem_mem hi)
      have hne : (O[i]).1 ≠ p := fun e => by
        have nd := h.nd
        have a1 : (O.map (·.1))[i]'(by rw [List.length_map]; exact hi) = p := by rw [List.getElem_map]; exact e
        have a2 : (O.map (·.1))[k]'(by rw [List.length_map]; exact hlt) = p := by rw [List.getElem_map, hge]
        exact hik ((List.getElem_inj nd).mp (a2.trans a1.symm))
      exact ⟨h1, u, by rw [upd_ne hne]; exact h2, h3⟩
theorem Hold.mono {F F' : Hp} {Γ : Fr} {O O' : Own} {σ : L2.St} {H H' : Hp} (h : Hold F Γ O σ H) (e : Gw F F') (k : HoldO F' O' H') : Hold F' Γ O' σ H' := ⟨h.fr.mono e, k⟩
theorem Hold.set {F : Hp} {Γ : Fr} {O : Own} {σ : L2.St} {H : Hp} {d : D} {v : V} (i : Nat) (h : Hold F Γ O σ H) (q : d.ok F v) : Hold F (Γ.set i (some d)) O (σ.set i (some v)) H := ⟨h.fr.set i q, h.ho⟩
end Kn

/-! Fw2: the judgements of expressions over described values. -/
namespace Kn
open PySem PySem.Spec L2

/-! ### what stands around -/
structure Cfg where
  P : Program
  w : World
  K : PySem.W.Frag
  mg : Str → Option Value
  base : Heap
structure Sc where
  k : Nat
  N : List Str
  sc : Scope
  top : Bool := true
structure InC (G : Cfg) (C : Sc) (X : Cx) : Prop where
  p : X.prog = G.P
  w : X.w = G.w
  K : X.K = G.K
  mg : X.mg = G.mg
  base : X.base = G.base
  n : X.N = C.N
  sc : X.env.scope = C.sc
  calm : X.calm = true
  room : Room C.k X.A
  po : PassesOwn (model X.prog X.w) X.A X.env X.xe
  fn : C.top = true → ∀ x, X.fn x = true

def WE (X : Cx) (e : Expr) : TE := fun σ H Q => ∀ (pins : List (Addr × Obj)) (s : Shared), Inv X pins σ H s → wpAny (model X.prog X.w) X.A (eval e X.env) (EP X pins σ Q) X.xe s
def WT (X : Cx) (e : Expr) : TT := fun σ H Q => ∀ (pins : List (Addr × Obj)) (s : Shared), Inv X pins σ H s → wpAny (model X.prog X.w) X.A (isTrue e X.env (eval e X.env)) (TP X pins σ Q) X.xe s
def WW (X : Cx) (e : Expr) : TT := fun σ H Q => ∀ (whole : Sem Value) (pins : List (Addr × Obj)) (s : Shared), Inv X pins σ H s → wpAny (model X.prog X.w) X.A (isTrue e X.env whole) (TP X pins σ Q) X.xe s
def WA (X : Cx) (es : List Expr) : TA := fun σ H Q => ∀ (pos : Pos) (pins : List (Addr × Obj)) (s : Shared), Inv X pins σ H s → wpAny (model X.prog X.w) X.A (spliced (backTo pos (starEach es X.env))) (AP X pins σ Q) X.xe s
theorem pe_can {X : Cx} {e : Expr} : PE X e (WE X e) := ⟨fun pins s _ _ _ I h => h pins s I⟩
theorem pt_can {X : Cx} {e : Expr} : PT X e (WT X e) := ⟨fun pins s _ _ _ I h => h pins s I⟩
theorem pw_can {X : Cx} {e : Expr} : PW X e (WW X e) := ⟨fun wh pins s _ _ _ I h => h wh pins s I⟩
theorem pa_can {X : Cx} {es : List Expr} : PA X es (WA X es) := ⟨fun pos pins s _ _ _ I h => h pos pins s I⟩
theorem we_of {X : Cx} {e : Expr} {t : TE} {σ : L2.St} {H : Hp} {Q : VK} (h : PE X e t) (q : t σ H Q) : WE X e σ H Q := fun pins s I => h.run pins s σ H Q I q
theorem wt_of {X : Cx} {e : Expr} {t : TT} {σ : L2.St} {H : Hp} {Q : Bool → Hp → Prop} (h : PT X e t) (q : t σ H Q) : WT X e σ H Q := fun pins s I => h.run pins s σ H Q I q
theorem ww_of {X : Cx} {e : Expr} {t : TT} {σ : L2.St} {H : Hp} {Q : Bool → Hp → Prop} (h : PW X e t) (q : t σ H Q) : WW X e σ H Q := fun wh pins s I => h.run wh pins s σ H Q I q
theorem wa_of {X : Cx} {es : List Expr} {t : TA} {σ : L2.St} {H : Hp} {Q : List V → Hp → Prop} (h : PA X es t) (q : t σ H Q) : WA X es σ H Q := fun pos pins s I => h.run pos pins s σ H Q I q

/-! ### judgements -/
/-- the expression's value is d; what is one's own stays -/
structure E (G : Cfg) (C : Sc) (e : Expr) (Γ : Fr) (O : Own) (d : D) : Prop where
  run : ∀ X, InC G C X → ∀ (F : Hp) (σ : L2.St) (H : Hp), Hold F Γ O σ H → ∀ Q : VK, (∀ F' H' v, Gw F F' → Hold F' Γ O σ H' → d.ok F' v → Q v H') → WE X e σ H Q
/-- the expression's value is a new object of one's own -/
structure EN (G : Cfg) (C : Sc) (e : Expr) (Γ : Fr) (O : Own) (od : OD) : Prop where
  run : ∀ X, InC G C X → ∀ (F : Hp) (σ : L2.St) (H : Hp), Hold F Γ O σ H → ∀ Q : VK, (∀ F' H' p, Gw F F' → Hold F' Γ ((p, od) :: O) σ H' → Q (.ref p) H') → WE X e σ H Q
/-- a test -/
structure T (G : Cfg) (C : Sc) (e : Expr) (Γ : Fr) (O : Own) (b : Bool) : Prop where
  run : ∀ X, InC G C X → ∀ (F : Hp) (σ : L2.St) (H : Hp), Hold F Γ O σ H → ∀ Q : Bool → Hp → Prop, (∀ F' H', Gw F F' → Hold F' Γ O σ H' → Q b H') → WT X e σ H Q
structure TW (G : Cfg) (C : Sc) (e : Expr) (Γ : Fr) (O : Own) (b : Bool) : Prop where
  run : ∀ X, InC G C X → ∀ (F : Hp) (σ : L2.St) (H : Hp), Hold F Γ O σ H → ∀ Q : Bool → Hp → Prop, (∀ F' H', Gw F F' → Hold F' Γ O σ H' → Q b H') → WW X e σ H Q
/-- arguments, no star -/
structure A (G : Cfg) (C : Sc) (es : List Expr) (Γ : Fr) (O : Own) (ds : List D) : Prop where
  st : ∀ env, (starEach es env).any (·.1) = false
  run : ∀ X, InC G C X → ∀ (F : Hp) (σ : L2.St) (H : Hp), Hold F Γ O σ H → ∀ Q : List V → Hp → Prop, (∀ F' H' vs, Gw F F' → Hold F' Γ O σ H' → AllD F' ds vs → Q vs H') → WA X es σ H Q
/-- an operation upon two values -/
def R2D (r : R2) (O : Own) (da db d : D) : Prop := ∀ F H v u, HoldO F O H → da.ok F v → db.ok F u → ∀ Q : VK, (∀ F' H' z, Gw F F' → HoldO F' O H' → d.ok F' z → Q z H') → r v u H Q
/-- a call upon values -/
def RCD (r : List V → Hp → VK → Prop) (O : Own) (ds : List D) (d : D) : Prop := ∀ F H vs, HoldO F O H → AllD F ds vs → ∀ Q : VK, (∀ F' H' z, Gw F F' → HoldO F' O H' → d.ok F' z → Q z H') → r vs H Q
def RCN (r : List V → Hp → VK → Prop) (O : Own) (ds : List D) (od : OD) : Prop := ∀ F H vs, HoldO F O H → AllD F ds vs → ∀ Q : VK, (∀ F' H' p, Gw F F' → HoldO F' ((p, od) :: O) H' → Q (.ref p) H') → r vs H Q

section
variable {G : Cfg} {C : Sc} {Γ : Fr} {O : Own} {e a b c : Expr} {es : List Expr} {d da db dc : D} {ds : List D} {pos p1 p2 : Pos} {x : Str}

/-! ### names -/
structure Var (C : Sc) (i : Nat) (x : Str) : Prop where
  n : C.N[i]? = some x
  v : Vis C.sc x
  d : (x == ("__debug__" : Str)) = false
  c : (x == ("__classdict__" : Str)) = false
def varB (C : Sc) (i : Nat) (x : Str) : Bool := decide (C.N[i]? = some x) && (match C.sc.names.lookup x with
  | some .local => true
  | some .cell => true
  | some .free => true
  | _ => false) && !(x == ("__debug__" : Str)) && !(x == ("__classdict__" : Str))
theorem var_of {C : Sc} {i : Nat} {x : Str} (h : varB C i x = true) : Var C i x := by
  unfold varB at h
  simp only [Bool.and_eq_true, decide_eq_true_eq, Bool.not_eq_true'] at h
  obtain ⟨⟨⟨h1, h2⟩, h3⟩, h4⟩ := h
  refine ⟨h1, ?_, h3, h4⟩
  unfold Vis
  revert h2
  cases C.sc.names.lookup x with
  | none => intro h; cases h
  | some k => cases k <;> intro h <;> first | exact .inl rfl | exact .inr (.inl rfl) | exact .inr (.inr rfl) | cases h
theorem e_var {i : Nat} (v : Var C i x) (hd : Γ[i]? = some (some d)) : E G C (.Name x pos) Γ O d := .mk fun X c F σ H h Q q => by
  obtain ⟨u, h1, h2⟩ := h.fr.2 i d hd
  exact we_of (pe_var (by rw [c.n]; exact v.n) (by rw [c.sc]; exact v.v) v.d v.c) ⟨u, h1, q F H u (Gw.refl F) h h2⟩
theorem e_const {v : V} (h : ∀ X, PE X e (tC v)) : E G C e Γ O (dV v) := .mk fun X c F σ H hh Q q => we_of (h X) (q F H v (Gw.refl F) hh rfl)
theorem e_int {i : Int} {j : Nat} : E G C (.Constant (.int i) j pos) Γ O (dI i) := e_const fun _ => pe_int
theorem e_bool {i : Bool} {j : Nat} : E G C (.Constant (.bool i) j pos) Γ O (dB i) := e_const fun _ => pe_bl
theorem e_none {j : Nat} : E G C (.Constant .none j pos) Γ O dN := e_const fun _ => pe_non
theorem e_str {i : Str} {j : Nat} (ho : okSb i = true := by decide +kernel) : E G C (.Constant (.str i) j pos) Γ O (dS i) := .mk fun X c F σ H hh Q q => we_of pe_str (q F H _ (Gw.refl F) hh ⟨rfl, okS_of ho⟩)
def Glo (C : Sc) (x : Str) : Prop := C.sc.names.lookup x = some .globalImplicit ∧ (x == ("__debug__" : Str)) = false ∧ x ≠ "__name__"
def gloB (C : Sc) (x : Str) : Bool := (match C.sc.names.lookup x with
  | some .globalImplicit => true
  | _ => false) && !(x == ("__debug__" : Str)) && !(x == ("__name__" : Str))
theorem glo_of {C : Sc} {x : Str} (h : gloB C x = true) : Glo C x := by
  unfold gloB at h
  simp only [Bool.and_eq_true, Bool.not_eq_true'] at h
  obtain ⟨⟨h1, h2⟩, h3⟩ := h
  refine ⟨?_, h2, fun e => by rw [e] at h3; simp at h3⟩
  revert h1
  cases C.sc.names.lookup x with
  | none => intro h; cases h
  | some k => cases k <;> intro h <;> first | rfl | cases h
theorem InC.gl {X : Cx} (c : InC G C X) (g : Glo C x) : Gl X x := by
  show X.env.scope.names.lookup x = _
  rw [c.sc]; exact g.1
/-- a constant of the module -/
theorem e_glob {v : V} {u : Value} (g : Glo C x) (hm : G.mg x = some u) (r : RelV v u) : E G C (.Name x pos) Γ O (dV v) := .mk fun X c F σ H hh Q q =>
  we_of (pe_glob (c.gl g) (by rw [c.mg]; exact hm) r g.2.1) (q F H v (Gw.refl F) hh rfl)
/-- what is described so and so -/
theorem e_as {d' : D} (h : E G C e Γ O d) (k : ∀ F v, d.ok F v → d'.ok F v) : E G C e Γ O d' := .mk fun X c F σ H hh Q q => h.run X c F σ H hh Q fun F' H' v e1 h1 d1 => q F' H' v e1 h1 (k F' v d1)
theorem e_eq {d' : D} (h : E G C e Γ O d) (k : d = d') : E G C e Γ O d' := k ▸ h
theorem freeze_lst {F : Hp} {p : Addr} {ds : List D} {H : Hp} (h : HoldO F ((p, oLst ds) :: O) H) : ∃ F', Gw F F' ∧ HoldO F' O H ∧ (dLst G.K ds).ok F' (.ref p) := by
  obtain ⟨o, _, ⟨vs, rfl, ha⟩, e, hh⟩ := h.freeze
  exact ⟨_, e, hh, p, vs, rfl, .inl (Rd.of upd_same), AllD.mono e ha⟩
/-- a new list, left as it is -/
theorem en_lst (h : EN G C e Γ O (oLst ds)) : E G C e Γ O (dLst G.K ds) := .mk fun X c F σ H hh Q q => h.run X c F σ H hh Q fun F' H' p e1 h1 => by
  obtain ⟨F2, e2, h2, d2⟩ := freeze_lst (G := G) h1.ho
  exact q F2 H' _ (e1.trans e2) ⟨h1.fr.mono e2, h2⟩ d2
/-! ### arguments -/
theorem a_nil : A G C [] Γ O [] := ⟨fun _ => rfl, fun X c F σ H hh Q q => wa_of pa_nil (q F H [] (Gw.refl F) hh trivial)⟩
theorem a_cons (h : E G C e Γ O d) (hr : A G C es Γ O ds) (hs : ∀ env, starEach (e :: es) env = (false, eval e env) :: starEach es env) : A G C (e :: es) Γ O (d :: ds) :=
  ⟨fun env => by rw [hs, List.any_cons, hr.st]; rfl, fun X c F σ H hh Q q => by
    refine wa_of (pa_cons pe_can pa_can (hs X.env)) (h.run X c F σ H hh _ fun F1 H1 v e1 h1 d1 => ?_)
    exact hr.run X c F1 σ H1 h1 _ fun F2 H2 vs e2 h2 d2 => q F2 H2 _ (e1.trans e2) h2 ⟨d.mono e2 d1, d2⟩⟩
theorem A.bt (h : A G C es Γ O ds) (pos : Pos) (env : Env) : (backTo pos (starEach es env)).any (·.1) = false := by
  unfold backTo
  rw [List.any_map]
  exact h.st env
/-! ### displays -/
theorem e_tup {k : Nat} (h : A G C es Γ O ds) (hl : ds.length ≤ 100000) : E G C (.Tuple es k pos) Γ O (dTup G.K ds) := .mk fun X c F σ H hh Q q => by
  refine we_of (pe_tup pa_can) (h.run X c F σ H hh _ fun F1 H1 vs e1 h1 d1 => ⟨?_, fun p hp => ?_⟩)
  · rw [AllD.length d1]; exact Nat.le_trans hl (by decide)
  · obtain ⟨h2, e2⟩ := h1.ho.laid (o := .tup vs) hp
    exact q _ _ _ (e1.trans e2) (h1.mono e2 h2) ⟨p, vs, rfl, .inl (.inl upd_same), AllD.mono e2 d1⟩
theorem en_list (h : A G C es Γ O ds) (hl : ds.length ≤ 100000) : EN G C (.List es pos) Γ O (oLst ds) := .mk fun X c F σ H hh Q q => by
  refine we_of (pe_lst pa_can) (h.run X c F σ H hh _ fun F1 H1 vs e1 h1 d1 => ⟨?_, fun p hp => ?_⟩)
  · rw [AllD.length d1]; exact Nat.le_trans hl (by decide)
  · exact q F1 _ p e1 ⟨h1.fr, h1.ho.own hp ⟨vs, rfl, d1⟩⟩
/-! ### operators -/
theorem e_op {op : Operator} {r : R2} (ho : ∀ X, InC G C X → OpR X (binaryOp op) r) (hr : R2D r O da db d) (ha : E G C a Γ O da) (hb : E G C b Γ O db) : E G C (.BinOp a op b pos) Γ O d := .mk fun X c F σ H hh Q q => by
  refine we_of (pe_op (ho X c) pe_can pe_can) (ha.run X c F σ H hh _ fun F1 H1 v e1 h1 d1 => ?_)
  refine hb.run X c F1 σ H1 h1 _ fun F2 H2 u e2 h2 d2 => ?_
  exact hr F2 H2 v u h2.ho (da.mono e2 d1) d2 _ fun F3 H3 z e3 h3 d3 => q F3 H3 z ((e1.trans e2).trans e3) (h2.mono e3 h3) d3
theorem e_un {op : UnaryOp} {r : V → Hp → VK → Prop} (ho : ∀ X, InC G C X → UnR X (unaryOp op) r) (hr : ∀ F H v, HoldO F O H → da.ok F v → ∀ Q : VK, (∀ z, d.ok F z → Q z H) → r v H Q) (ha : E G C a Γ O da) : E G C (.UnaryOp op a pos) Γ O d := .mk fun X c F σ H hh Q q => by
  refine we_of (pe_un (ho X c) pe_can) (ha.run X c F σ H hh _ fun F1 H1 v e1 h1 d1 => ?_)
  exact hr F1 H1 v h1.ho d1 _ fun z dz => q F1 H1 z e1 h1 dz
theorem r2_I0 {g : Int → Int → V} {i j : Int} : R2D (rI0 g) O (dI i) (dI j) (dV (g i j)) := fun F H v u hh h1 h2 Q q => ⟨i, j, h1, h2, q F H _ (Gw.refl F) hh rfl⟩
theorem r2_I {P : Int → Int → Prop} {g : Int → Int → V} {i j : Int} (hp : P i j) : R2D (rI P g) O (dI i) (dI j) (dV (g i j)) := fun F H v u hh h1 h2 Q q => ⟨i, j, h1, h2, hp, q F H _ (Gw.refl F) hh rfl⟩
theorem e_add {i j : Int} (ha : E G C a Γ O (dI i)) (hb : E G C b Γ O (dI j)) : E G C (.BinOp a .Add b pos) Γ O (dI (i + j)) := e_op (fun _ _ => op_add) r2_I0 ha hb
theorem e_sub {i j : Int} (ha : E G C a Γ O (dI i)) (hb : E G C b Γ O (dI j)) : E G C (.BinOp a .Sub b pos) Γ O (dI (i - j)) := e_op (fun _ _ => op_sub) r2_I0 ha hb
theorem e_mul {i j : Int} (ha : E G C a Γ O (dI i)) (hb : E G C b Γ O (dI j)) (hm : CMul i j) : E G C (.BinOp a .Mult b pos) Γ O (dI (i * j)) := e_op (fun _ _ => op_mul) (r2_I hm) ha hb
theorem e_mod {i j : Int} (ha : E G C a Γ O (dI i)) (hb : E G C b Γ O (dI j)) (hm : 0 < j) : E G C (.BinOp a .Mod b pos) Γ O (dI (i % j)) := e_op (fun _ _ => op_mod) (r2_I hm) ha hb
theorem e_div {i j : Int} (ha : E G C a Γ O (dI i)) (hb : E G C b Γ O (dI j)) (hm : CDiv i j) : E G C (.BinOp a .FloorDiv b pos) Γ O (dI (i / j)) := e_op (fun _ _ => op_fdiv) (r2_I hm) ha hb
theorem e_pow {i j : Int} (ha : E G C a Γ O (dI i)) (hb : E G C b Γ O (dI j)) (hm : CPow i j) : E G C (.BinOp a .Pow b pos) Γ O (dI (i ^ j.toNat)) := e_op (fun _ _ => op_pow) (r2_I hm) ha hb
theorem e_neg {i : Int} (ha : E G C a Γ O (dI i)) : E G C (.UnaryOp .USub a pos) Γ O (dI (-i)) := e_un (fun _ _ => un_neg) (fun F H v _ h Q q => ⟨i, h, q _ rfl⟩) ha
theorem e_addS {i j : Str} (ha : E G C a Γ O (dS i)) (hb : E G C b Γ O (dS j)) (hl : i.length + j.length ≤ sizeLine) : E G C (.BinOp a .Add b pos) Γ O (dS (i ++ j)) :=
  e_op (da := dS i) (db := dS j) (fun _ _ => op_add_str) (fun F H v u hh h1 h2 Q q => ⟨i, j, h1.1, h2.1, hl, q F H _ (Gw.refl F) hh ⟨rfl, okS_app h1.2 h2.2 hl⟩⟩) ha hb
/-! ### comparisons -/
structure CmpR (G : Cfg) (C : Sc) (op : CmpOp) (O : Own) (da db : D) (k : Bool) : Prop where
  ex : ∀ X, InC G C X → ∃ r, OpR X (compareOp op) r ∧ R2D r O da db (dB k)
theorem cmp_of {op : CmpOp} {r : R2} {k : Bool} (ho : ∀ X, InC G C X → OpR X (compareOp op) r) (hr : R2D r O da db (dB k)) : CmpR G C op O da db k := ⟨fun X c => ⟨r, ho X c, hr⟩⟩
theorem e_cmp {op : CmpOp} {k : Bool} (r : CmpR G C op O da db k) (ha : E G C a Γ O da) (hb : E G C b Γ O db) (hm : behindInMarks op b = false) : E G C (.Compare a [op] [b] pos) Γ O (dB k) := .mk fun X c F σ H hh Q q => by
  obtain ⟨r, ho, hr⟩ := r.ex X c
  refine we_of (pe_cmpR ho pe_can pe_can hm) (ha.run X c F σ H hh _ fun F1 H1 v e1 h1 d1 => ?_)
  refine hb.run X c F1 σ H1 h1 _ fun F2 H2 u e2 h2 d2 => ?_
  exact hr F2 H2 v u h2.ho (da.mono e2 d1) d2 _ fun F3 H3 z e3 h3 d3 => q F3 H3 z ((e1.trans e2).trans e3) (h2.mono e3 h3) d3
theorem t_cmp {op : CmpOp} {k : Bool} (r : CmpR G C op O da db k) (ha : E G C a Γ O da) (hb : E G C b Γ O db) (hm : behindInMarks op b = false) : T G C (.Compare a [op] [b] pos) Γ O k := .mk fun X c F σ H hh Q q => by
  obtain ⟨r, ho, hr⟩ := r.ex X c
  refine wt_of (pt_cmpR ho pe_can pe_can hm) (ha.run X c F σ H hh _ fun F1 H1 v e1 h1 d1 => ?_)
  refine hb.run X c F1 σ H1 h1 _ fun F2 H2 u e2 h2 d2 => ?_
  exact hr F2 H2 v u h2.ho (da.mono e2 d1) d2 _ fun F3 H3 z e3 h3 d3 => ⟨k, d3, q F3 H3 ((e1.trans e2).trans e3) (h2.mono e3 h3)⟩
/-- a chain of two -/
theorem e_chain {op op' : CmpOp} {k k' : Bool} (r : CmpR G C op O da db k) (r' : k = true → CmpR G C op' O db dc k') (ha : E G C a Γ O da) (hb : E G C b Γ O db) (hc : k = true → E G C c Γ O dc)
    (hx : ∀ X {r1 r2 : R2} {ta tb tc : TE}, OpR X (compareOp op) r1 → OpR X (compareOp op') r2 → PE X a ta → PE X b tb → PE X c tc → PE X (.Compare a [op, op'] [b, c] pos) (tChain r1 r2 ta tb tc)) : E G C (.Compare a [op, op'] [b, c] pos) Γ O (dB (k && k')) := .mk fun X c0 F σ H hh Q q => by
  obtain ⟨r, ho, hr⟩ := r.ex X c0
  cases k with
  | false =>
    refine we_of (hx X (r2 := fun _ _ _ _ => False) ho (fun _ _ _ _ _ _ _ _ _ _ _ _ h => h.elim) pe_can pe_can pe_can) (ha.run X c0 F σ H hh _ fun F1 H1 v e1 h1 d1 => ?_)
    refine hb.run X c0 F1 σ H1 h1 _ fun F2 H2 u e2 h2 d2 => ?_
    exact hr F2 H2 v u h2.ho (da.mono e2 d1) d2 _ fun F3 H3 z e3 h3 d3 => ⟨false, d3, iteF (q F3 H3 _ ((e1.trans e2).trans e3) (h2.mono e3 h3) rfl)⟩
  | true =>
    obtain ⟨r2, ho2, hr2⟩ := (r' rfl).ex X c0
    refine we_of (hx X ho ho2 pe_can pe_can pe_can) (ha.run X c0 F σ H hh _ fun F1 H1 v e1 h1 d1 => ?_)
    refine hb.run X c0 F1 σ H1 h1 _ fun F2 H2 u e2 h2 d2 => ?_
    exact hr F2 H2 v u h2.ho (da.mono e2 d1) d2 _ fun F3 H3 z e3 h3 d3 => ⟨true, d3, iteT ((hc rfl).run X c0 F3 σ H3 (h2.mono e3 h3) _ fun F4 H4 y e4 h4 d4 =>
      hr2 F4 H4 u y h4.ho (db.mono (e3.trans e4) d2) d4 _ fun F5 H5 z e5 h5 d5 => q F5 H5 z ((((e1.trans e2).trans e3).trans e4).trans e5) (h4.mono e5 h5) d5)⟩
theorem t_chain {op op' : CmpOp} {k k' : Bool} (r : CmpR G C op O da db k) (r' : k = true → CmpR G C op' O db dc k') (ha : E G C a Γ O da) (hb : E G C b Γ O db) (hc : k = true → E G C c Γ O dc)
    (hx : ∀ X {r1 r2 : R2} {ta tb tc : TE}, OpR X (compareOp op) r1 → OpR X (compareOp op') r2 → PE X a ta → PE X b tb → PE X c tc → PT X (.Compare a [op, op'] [b, c] pos) (tTest (tChain r1 r2 ta tb tc))) : T G C (.Compare a [op, op'] [b, c] pos) Γ O (k && k') := .mk fun X c0 F σ H hh Q q => by
  obtain ⟨r, ho, hr⟩ := r.ex X c0
  cases k with
  | false =>
    refine wt_of (hx X (r2 := fun _ _ _ _ => False) ho (fun _ _ _ _ _ _ _ _ _ _ _ _ h => h.elim) pe_can pe_can pe_can) (ha.run X c0 F σ H hh _ fun F1 H1 v e1 h1 d1 => ?_)
    refine hb.run X c0 F1 σ H1 h1 _ fun F2 H2 u e2 h2 d2 => ?_
    exact hr F2 H2 v u h2.ho (da.mono e2 d1) d2 _ fun F3 H3 z e3 h3 d3 => ⟨false, d3, iteF ⟨false, rfl, q F3 H3 ((e1.trans e2).trans e3) (h2.mono e3 h3)⟩⟩
  | true =>
    obtain ⟨r2, ho2, hr2⟩ := (r' rfl).ex X c0
    refine wt_of (hx X ho ho2 pe_can pe_can pe_can) (ha.run X c0 F σ H hh _ fun F1 H1 v e1 h1 d1 => ?_)
    refine hb.run X c0 F1 σ H1 h1 _ fun F2 H2 u e2 h2 d2 => ?_
    exact hr F2 H2 v u h2.ho (da.mono e2 d1) d2 _ fun F3 H3 z e3 h3 d3 => ⟨true, d3, iteT ((hc rfl).run X c0 F3 σ H3 (h2.mono e3 h3) _ fun F4 H4 y e4 h4 d4 =>
      hr2 F4 H4 u y h4.ho (db.mono (e3.trans e4) d2) d4 _ fun F5 H5 z e5 h5 d5 => ⟨k', d5, q F5 H5 ((((e1.trans e2).trans e3).trans e4).trans e5) (h4.mono e5 h5)⟩)⟩
theorem c_lt {i j : Int} : CmpR G C .Lt O (dI i) (dI j) (decide (i < j)) := cmp_of (fun _ _ => op_lt) r2_I0
theorem c_le {i j : Int} : CmpR G C .LtE O (dI i) (dI j) (decide (i ≤ j)) := cmp_of (fun _ _ => op_le) r2_I0
theorem c_gt {i j : Int} : CmpR G C .Gt O (dI i) (dI j) (decide (j < i)) := cmp_of (fun _ _ => op_gt) r2_I0
theorem c_ge {i j : Int} : CmpR G C .GtE O (dI i) (dI j) (decide (j ≤ i)) := cmp_of (fun _ _ => op_ge) r2_I0
theorem c_eqV {v u : V} (h : scal v u = true) : CmpR G C .Eq O (dV v) (dV u) (decide (v = u)) := cmp_of (fun _ _ => op_eq) fun F H x y hh h1 h2 Q q => by
  cases h1; cases h2
  exact ⟨h, q F H _ (Gw.refl F) hh rfl⟩
theorem c_neV {v u : V} (h : scal v u = true) : CmpR G C .NotEq O (dV v) (dV u) (!decide (v = u)) := cmp_of (fun _ _ => op_ne) fun F H x y hh h1 h2 Q q => by
  cases h1; cases h2
  exact ⟨h, q F H _ (Gw.refl F) hh rfl⟩
theorem dec_iff {p q : Prop} [Decidable p] [Decidable q] (h : p ↔ q) : decide p = decide q := by
  by_cases hp : p
  · rw [decide_eq_true hp, decide_eq_true (h.mp hp)]
  · rw [decide_eq_false hp, decide_eq_false fun z => hp (h.mpr z)]
theorem c_is {op : CmpOp} {k k' : Bool} (h : CmpR G C op O da db k) (e : k = k') : CmpR G C op O da db k' := e ▸ h
theorem c_weak {op : CmpOp} {k : Bool} {da' db' : D} (h : CmpR G C op O da db k) (ha : ∀ F v, da'.ok F v → da.ok F v) (hb : ∀ F v, db'.ok F v → db.ok F v) : CmpR G C op O da' db' k := ⟨fun X c => by
  obtain ⟨r, ho, hr⟩ := h.ex X c
  exact ⟨r, ho, fun F H v u hh h1 h2 Q q => hr F H v u hh (ha F v h1) (hb F u h2) Q q⟩⟩
theorem c_eqI {i j : Int} : CmpR G C .Eq O (dI i) (dI j) (decide (i = j)) := c_is (c_eqV rfl) (dec_iff ⟨fun h => V.int.inj h, fun h => by rw [h]⟩)
theorem c_neI {i j : Int} : CmpR G C .NotEq O (dI i) (dI j) (!decide (i = j)) := c_is (c_neV rfl) (by rw [dec_iff ⟨fun h => V.int.inj h, fun h => by rw [h]⟩])
theorem c_eqS {i j : Str} : CmpR G C .Eq O (dS i) (dS j) (decide (i = j)) := c_weak (da := dV (.str i)) (db := dV (.str j)) (c_is (c_eqV rfl) (dec_iff ⟨fun h => V.str.inj h, fun h => by rw [h]⟩)) (fun _ _ h => h.1) (fun _ _ h => h.1)
theorem c_neS {i j : Str} : CmpR G C .NotEq O (dS i) (dS j) (!decide (i = j)) := c_weak (da := dV (.str i)) (db := dV (.str j)) (c_is (c_neV rfl) (by rw [dec_iff ⟨fun h => V.str.inj h, fun h => by rw [h]⟩])) (fun _ _ h => h.1) (fun _ _ h => h.1)
theorem c_eqB {i j : Bool} : CmpR G C .Eq O (dB i) (dB j) (decide (i = j)) := c_is (c_eqV rfl) (dec_iff ⟨fun h => V.bl.inj h, fun h => by rw [h]⟩)
theorem c_neB {i j : Bool} : CmpR G C .NotEq O (dB i) (dB j) (!decide (i = j)) := c_is (c_neV rfl) (by rw [dec_iff ⟨fun h => V.bl.inj h, fun h => by rw [h]⟩])
/-! ### tests -/
theorem t_val {k : Bool} (h : E G C e Γ O (dB k)) (he : ∀ (env : Env) whole, isTrue e env whole = (do let v ← whole; standAt e.pos; holding [v] (truthy v))) : T G C e Γ O k := .mk fun X c F σ H hh Q q =>
  wt_of (pt_val pe_can (he X.env)) (h.run X c F σ H hh _ fun F1 H1 v e1 h1 d1 => ⟨k, d1, q F1 H1 e1 h1⟩)
theorem t_not {k : Bool} (h : T G C a Γ O k) : T G C (.UnaryOp .Not a pos) Γ O (!k) := .mk fun X c F σ H hh Q q => wt_of (pt_not pt_can) (h.run X c F σ H hh _ fun F1 H1 e1 h1 => q F1 H1 e1 h1)
theorem t_w {k : Bool} (h : TW G C e Γ O k) : T G C e Γ O k := .mk fun X c F σ H hh Q q => wt_of (PW.pt pw_can) (h.run X c F σ H hh Q q)
theorem w_and1 {k : Bool} (h : T G C a Γ O k) : TW G C (.BoolOp .And [a] pos) Γ O k := .mk fun X c F σ H hh Q q => ww_of (pw_and1 pt_can) (h.run X c F σ H hh Q q)
theorem w_or1 {k : Bool} (h : T G C a Γ O k) : TW G C (.BoolOp .Or [a] pos) Γ O k := .mk fun X c F σ H hh Q q => ww_of (pw_or1 pt_can) (h.run X c F σ H hh Q q)
theorem w_and {k k' : Bool} (h : T G C a Γ O k) (h2 : k = true → TW G C (.BoolOp .And (b :: es) pos) Γ O k') : TW G C (.BoolOp .And (a :: b :: es) pos) Γ O (k && k') := .mk fun X c F σ H hh Q q =>
  ww_of (pw_and pt_can pw_can) (h.run X c F σ H hh _ fun F1 H1 e1 h1 => by
    cases k with
    | true => exact iteT ((h2 rfl).run X c F1 σ H1 h1 _ fun F2 H2 e2 h3 => q F2 H2 (e1.trans e2) h3)
    | false => exact iteF (q F1 H1 e1 h1))
theorem w_or {k k' : Bool} (h : T G C a Γ O k) (h2 : k = false → TW G C (.BoolOp .Or (b :: es) pos) Γ O k') : TW G C (.BoolOp .Or (a :: b :: es) pos) Γ O (k || k') := .mk fun X c F σ H hh Q q =>
  ww_of (pw_or pt_can pw_can) (h.run X c F σ H hh _ fun F1 H1 e1 h1 => by
    cases k with
    | false => exact iteF ((h2 rfl).run X c F1 σ H1 h1 _ fun F2 H2 e2 h3 => q F2 H2 (e1.trans e2) h3)
    | true => exact iteT (q F1 H1 e1 h1))
theorem e_bool1 {op : BoolOp} {d : D} (h : E G C a Γ O d) : E G C (.BoolOp op [a] pos) Γ O d := .mk fun X c F σ H hh Q q => we_of (pe_one pe_can) (h.run X c F σ H hh Q q)
theorem e_and {k k' : Bool} (h : E G C a Γ O (dB k)) (h2 : k = true → E G C (.BoolOp .And (b :: es) pos) Γ O (dB k')) : E G C (.BoolOp .And (a :: b :: es) pos) Γ O (dB (k && k')) := .mk fun X c F σ H hh Q q =>
  we_of (pe_and pe_can pe_can) (h.run X c F σ H hh _ fun F1 H1 v e1 h1 d1 => ⟨k, d1, by
    cases k with
    | true => exact iteT ((h2 rfl).run X c F1 σ H1 h1 _ fun F2 H2 u e2 h3 d3 => q F2 H2 u (e1.trans e2) h3 d3)
    | false => exact iteF (q F1 H1 _ e1 h1 rfl)⟩)
theorem e_or {k k' : Bool} (h : E G C a Γ O (dB k)) (h2 : k = false → E G C (.BoolOp .Or (b :: es) pos) Γ O (dB k')) : E G C (.BoolOp .Or (a :: b :: es) pos) Γ O (dB (k || k')) := .mk fun X c F σ H hh Q q =>
  we_of (pe_or pe_can pe_can) (h.run X c F σ H hh _ fun F1 H1 v e1 h1 d1 => ⟨k, d1, by
    cases k with
    | false => exact iteF ((h2 rfl).run X c F1 σ H1 h1 _ fun F2 H2 u e2 h3 d3 => q F2 H2 u (e1.trans e2) h3 d3)
    | true => exact iteT (q F1 H1 _ e1 h1 rfl)⟩)
theorem e_not {k : Bool} (h : E G C a Γ O (dB k)) : E G C (.UnaryOp .Not a pos) Γ O (dB (!k)) := .mk fun X c F σ H hh Q q =>
  we_of (pe_not pe_can) (h.run X c F σ H hh _ fun F1 H1 v e1 h1 d1 => ⟨k, d1, q F1 H1 _ e1 h1 rfl⟩)
theorem e_ifx {k : Bool} (h : T G C c Γ O k) (h1 : k = true → E G C a Γ O d) (h2 : k = false → E G C b Γ O d) : E G C (.IfExp c a b pos) Γ O d := .mk fun X c F σ H hh Q q =>
  we_of (pe_ifExp pt_can pe_can pe_can) (h.run X c F σ H hh _ fun F1 H1 e1 h3 => by
    cases k with
    | true => exact iteT ((h1 rfl).run X c F1 σ H1 h3 _ fun F2 H2 u e2 h4 d4 => q F2 H2 u (e1.trans e2) h4 d4)
    | false => exact iteF ((h2 rfl).run X c F1 σ H1 h3 _ fun F2 H2 u e2 h4 d4 => q F2 H2 u (e1.trans e2) h4 d4))
end
end Kn

/-! Fw3: statements, defs, calls. -/
namespace Kn
open PySem PySem.Spec L2

/-- an error: its class's name, its fields -/
abbrev Exn := Str × List (Str × V)
inductive Out (S R : Type) where
  | nx (s : S)
  | rt (r : R)
  | ex (x : Exn)
/-- what a state, a value handed back is -/
structure SD where
  ok : Hp → L2.St → Hp → Prop
  anti : ∀ {F F' : Hp} {σ : L2.St} {H : Hp}, Gw F F' → ok F' σ H → ok F σ H
structure RK where
  ok : Hp → V → Hp → Prop
  anti : ∀ {F F' : Hp} {v : V} {H : Hp}, Gw F F' → ok F' v H → ok F v H
structure XD where
  ok : Hp → Value → Option Addr → L2.St → Hp → Prop
  anti : ∀ {F F' : Hp} {c : Value} {d : Option Addr} {σ : L2.St} {H : Hp}, Gw F F' → ok F' c d σ H → ok F c d σ H
def SD.of (Γ : Fr) (O : Own) : SD := ⟨fun F σ H => ∃ F', Gw F F' ∧ Hold F' Γ O σ H, fun e ⟨F', e2, h⟩ => ⟨F', e.trans e2, h⟩⟩
def RK.val (d : D) (O : Own) : RK := ⟨fun F v H => ∃ F', Gw F F' ∧ HoldO F' O H ∧ d.ok F' v, fun e ⟨F', e2, h⟩ => ⟨F', e.trans e2, h⟩⟩
def RK.new (od : OD) (O : Own) : RK := ⟨fun F v H => ∃ F' p, Gw F F' ∧ v = .ref p ∧ HoldO F' ((p, od) :: O) H, fun e ⟨F', p, e2, h⟩ => ⟨F', p, e.trans e2, h⟩⟩
def XD.no : XD := ⟨fun _ _ _ _ _ => False, fun _ h => h⟩
structure Ek (S R : Type) where
  fs : S → SD
  rs : R → RK
  xs : Exn → XD
abbrev Ek.to {S R S' : Type} (k : Ek S R) (fs : S' → SD) : Ek S' R := ⟨fs, k.rs, k.xs⟩
def meet {S R : Type} (k : Ek S R) (F : Hp) (D : Ends) (W : WX) : Out S R → Prop
  | .nx s => ∀ σ H, (k.fs s).ok F σ H → D.nx σ H
  | .rt r => ∀ v H, (k.rs r).ok F v H → D.rt v H
  | .ex x => ∀ c d σ H, (k.xs x).ok F c d σ H → W c d σ H
theorem meet.mono {S R : Type} {k : Ek S R} {F F' : Hp} {D : Ends} {W : WX} (e : Gw F F') : ∀ {o : Out S R}, meet k F D W o → meet k F' D W o
  | .nx s, h => fun σ H q => h σ H ((k.fs s).anti e q)
  | .rt r, h => fun v H q => h v H ((k.rs r).anti e q)
  | .ex x, h => fun c d σ H q => h c d σ H ((k.xs x).anti e q)
def WS (X : Cx) (st : Stmt) : TS := fun D σ H => ∀ (pins : List (Addr × Obj)) (s : Shared), Inv X pins σ H s → wpAny (model X.prog X.w) X.A (exec st X.env) (SP X pins D) X.xe s
def WSs (X : Cx) (ss : List Stmt) : TS := fun D σ H => ∀ (pins : List (Addr × Obj)) (s : Shared), Inv X pins σ H s → wpAny (model X.prog X.w) X.A (execs ss X.env) (SP X pins D) X.xe s
theorem ps_can {X : Cx} {st : Stmt} : PS X st (WS X st) := ⟨fun pins s _ _ _ I h => h pins s I⟩
theorem pss_can {X : Cx} {ss : List Stmt} : PSs X ss (WSs X ss) := ⟨fun pins s _ _ _ I h => h pins s I⟩
theorem wss_of {X : Cx} {ss : List Stmt} {t : TS} {D : Ends} {σ : L2.St} {H : Hp} (h : PSs X ss t) (q : t D σ H) : WSs X ss D σ H := fun pins s I => h.run pins s σ H D I q
/-- running the block ends as o says -/
structure SS (G : Cfg) (C : Sc) (ss : List Stmt) (Γ : Fr) (O : Own) {S R : Type} (k : Ek S R) (o : Out S R) : Prop where
  run : ∀ X, InC G C X → ∀ W, Takes X W → ∀ (F : Hp) (σ : L2.St) (H : Hp), Hold F Γ O σ H → ∀ D, meet k F D W o → WSs X ss D σ H

/-- let and if, as the mirrors have them -/
def lt {α β : Type} (a : α) (f : α → β) : β := f a

section
variable {G : Cfg} {C : Sc} {Γ Γ' : Fr} {O O' : Own} {S S1 R B : Type} {k : Ek S R} {o : Out S R} {e c : Expr} {d : D} {ss ta tb : List Stmt} {st : Stmt} {pos p1 p2 : Pos} {x : Str}

/-- one statement, the rest behind it -/
theorem ss_cons {t : Cx → TS} (hp : ∀ X, InC G C X → PS X st (t X)) (h : ∀ X, InC G C X → ∀ W, Takes X W → ∀ (F : Hp) (σ : L2.St) (H : Hp), Hold F Γ O σ H → ∀ D, meet k F D W o → t X { D with nx := WSs X ss D } σ H) : SS G C (st :: ss) Γ O k o := .mk fun X c W tk F σ H hh D m =>
  wss_of (pss_cons (hp X c) pss_can) (h X c W tk F σ H hh D m)

/-! ### ends -/
def FrLe : Fr → Fr → Prop
  | [], [] => True
  | a :: Γ, b :: Γ' => (b = none ∨ b = a) ∧ FrLe Γ Γ'
  | _, _ => False
theorem FrLe.at : ∀ {Γ Γ' : Fr} {i : Nat} {d : D}, FrLe Γ Γ' → Γ'[i]? = some (some d) → Γ[i]? = some (some d)
  | [], [], _, _, _, e => by simp at e
  | a :: Γ, b :: Γ', 0, d, h, e => by
    simp at e
    subst e
    rcases h.1 with h | h
    · cases h
    · rw [← h]; rfl
  | a :: Γ, b :: Γ', i + 1, d, h, e => by
    simp at e ⊢
    exact FrLe.at h.2 e
  | [], _ :: _, _, _, h, _ => h.elim
  | _ :: _, [], _, _, h, _ => h.elim
theorem FrLe.len : ∀ {Γ Γ' : Fr}, FrLe Γ Γ' → Γ'.length = Γ.length
  | [], [], _ => rfl
  | _ :: _, _ :: _, h => by simp [FrLe.len h.2]
  | [], _ :: _, h => h.elim
  | _ :: _, [], h => h.elim
theorem FrOk.le {F : Hp} {σ : L2.St} (h : FrOk F Γ σ) (l : FrLe Γ Γ') : FrOk F Γ' σ := ⟨by rw [l.len]; exact h.1, fun i d e => h.2 i d (l.at e)⟩
theorem FrLe.refl : ∀ {Γ : Fr}, FrLe Γ Γ
  | [] => trivial
  | _ :: _ => ⟨.inr rfl, FrLe.refl⟩
theorem ss_nil {s : S} (h : ∀ F σ H, Hold F Γ O σ H → (k.fs s).ok F σ H) : SS G C [] Γ O k (.nx s) := .mk fun X c W tk F σ H hh D m => wss_of pss_nil (m σ H (h F σ H hh))
theorem ss_end {s : S1} {fs : S1 → SD} {S2 : Type} {k2 : Ek S2 R} (h : ∀ F σ H, Hold F Γ O σ H → (fs s).ok F σ H) : SS G C [] Γ O (k2.to fs) (.nx s) := ss_nil h
theorem hold_end (l : FrLe Γ Γ') : ∀ F σ H, Hold F Γ O σ H → (SD.of Γ' O).ok F σ H := fun F σ H hh => ⟨F, Gw.refl F, hh.fr.le l, hh.ho⟩
theorem ss_pass (h : SS G C ss Γ O k o) : SS G C (.Pass pos :: ss) Γ O k o := ss_cons (fun _ _ => ps_pass) fun X c W tk F σ H hh D m => h.run X c W tk F σ H hh D m
/-- what is known of a slot is forgotten -/
theorem ss_le (l : FrLe Γ Γ') (h : SS G C ss Γ' O k o) : SS G C ss Γ O k o := .mk fun X c W tk F σ H hh D m => h.run X c W tk F σ H ⟨hh.fr.le l, hh.ho⟩ D m

/-! ### return -/
theorem ss_ret {r : R} (h : E G C e Γ O d) (hr : ∀ F v H, (RK.val d O).ok F v H → (k.rs r).ok F v H) : SS G C (.Return (some e) pos :: ss) Γ O k (.rt r) :=
  ss_cons (t := fun X => tRet (WE X e)) (fun _ _ => ps_ret pe_can) fun X c W tk F σ H hh D m => h.run X c F σ H hh _ fun F1 H1 v e1 h1 d1 => m v H1 (hr F v H1 ⟨F1, e1, h1.ho, d1⟩)
theorem ss_retN {od : OD} {r : R} (h : EN G C e Γ O od) (hr : ∀ F v H, (RK.new od O).ok F v H → (k.rs r).ok F v H) : SS G C (.Return (some e) pos :: ss) Γ O k (.rt r) :=
  ss_cons (t := fun X => tRet (WE X e)) (fun _ _ => ps_ret pe_can) fun X c W tk F σ H hh D m => h.run X c F σ H hh _ fun F1 H1 p e1 h1 => m _ H1 (hr F _ H1 ⟨F1, p, e1, rfl, h1.ho⟩)
/-! ### assignments to names -/
structure Loca (C : Sc) (i : Nat) (x : Str) : Prop where
  n : C.N[i]? = some x
  nd : C.N.Nodup
  l : L2.Loc C.sc x
  f : C.top = true ∨ C.sc.names.lookup x = some .local
def locB (C : Sc) (i : Nat) (x : Str) : Bool := decide (C.N[i]? = some x) && decide C.N.Nodup && (match C.sc.names.lookup x with
  | some .local => true
  | some .cell => C.top
  | _ => false)
theorem loc_of {C : Sc} {i : Nat} {x : Str} (h : locB C i x = true) : Loca C i x := by
  unfold locB at h
  simp only [Bool.and_eq_true, decide_eq_true_eq] at h
  obtain ⟨⟨h1, h2⟩, h3⟩ := h
  refine ⟨h1, h2, ?_, ?_⟩
  · unfold L2.Loc
    revert h3
    cases C.sc.names.lookup x with
    | none => intro h; cases h
    | some k => cases k <;> intro h <;> first | exact .inl rfl | exact .inr rfl | cases h
  · revert h3
    cases C.sc.names.lookup x with
    | none => intro h; cases h
    | some k => cases k <;> intro h <;> first | exact .inr rfl | exact .inl h | cases h
theorem Loca.pg {X : Cx} {i : Nat} (l : Loca C i x) (c : InC G C X) : PG X (.Name x pos) (gName i) :=
  pg_name (by rw [c.n]; exact l.nd) (by rw [c.n]; exact l.n) (by rw [c.sc]; exact l.l) (by rcases l.f with h | h; exact .inl (c.fn h x); exact .inr (by rw [c.sc]; exact h))
abbrev Plain (e : Expr) : Prop := ∀ (env : Env) (t : Expr) (l : Nat), swapsWith e (some t) l env = pure false
theorem ss_asg {α : Type} {f : α → D} {a : α} {i : Nat} (ι : B → Out S R) {g : α → B} (l : Loca C i x) (hs : ∀ env, swapsWith e (some (.Name x p1)) pos.line env = pure false) (h : E G C e Γ O (f a)) (hr : ∀ y, y = a → SS G C ss (Γ.set i (some (f y))) O k (ι (g y))) : SS G C (.Assign [.Name x p1] e pos :: ss) Γ O k (ι (lt a g)) :=
  ss_cons (t := fun X => tAsg (WE X e) (gName i)) (fun X c => ps_set (by rw [c.n]; exact l.nd) (by rw [c.n]; exact l.n) (by rw [c.sc]; exact l.l) pe_can (hs X.env) (by rcases l.f with h | h; exact .inl (c.fn h x); exact .inr (by rw [c.sc]; exact h)))
    fun X c W tk F σ H hh D m => h.run X c F σ H hh _ fun F1 H1 v e1 h1 d1 => (hr a rfl).run X c W tk F1 _ H1 (h1.set i d1) D (meet.mono e1 m)
/-- a new object of one's own -/
theorem ss_new {od : OD} {i : Nat} (l : Loca C i x) (hs : ∀ env, swapsWith e (some (.Name x p1)) pos.line env = pure false) (h : EN G C e Γ O od) (hr : ∀ p, SS G C ss (Γ.set i (some (dP p))) ((p, od) :: O) k o) : SS G C (.Assign [.Name x p1] e pos :: ss) Γ O k o :=
  ss_cons (t := fun X => tAsg (WE X e) (gName i)) (fun X c => ps_set (by rw [c.n]; exact l.nd) (by rw [c.n]; exact l.n) (by rw [c.sc]; exact l.l) pe_can (hs X.env) (by rcases l.f with h | h; exact .inl (c.fn h x); exact .inr (by rw [c.sc]; exact h)))
    fun X c W tk F σ H hh D m => h.run X c F σ H hh _ fun F1 H1 p e1 h1 => (hr p).run X c W tk F1 _ H1 (Hold.set i h1 rfl) D (meet.mono e1 m)
theorem ss_drop (h : E G C e Γ O d) (hs : ∀ env, swapsWith e none pos.line env = pure false) (hr : SS G C ss Γ O k o) : SS G C (.Expr e pos :: ss) Γ O k o :=
  ss_cons (t := fun X => tDrop (WE X e)) (fun X _ => ps_expr pe_can (hs X.env)) fun X c W tk F σ H hh D m => h.run X c F σ H hh _ fun F1 H1 v e1 h1 d1 => hr.run X c W tk F1 σ H1 h1 D (meet.mono e1 m)
/-! ### if -/
/-- both ways end; nothing stands behind -/
theorem ss_if {b : Bool} {r1 r2 : B} (ι : B → Out S R) (h : T G C c Γ O b) (h1 : b = true → SS G C ta Γ O k (ι r1)) (h2 : b = false → SS G C tb Γ O k (ι r2)) : SS G C [.If c ta tb pos] Γ O k (ι (if b then r1 else r2)) := .mk fun X c0 W tk F σ H hh D m =>
  wss_of (t := tIfS (WT X c) (WSs X ta) (WSs X tb)) (pss_one (ps_if pt_can pss_can pss_can)) (h.run X c0 F σ H hh _ fun F1 H1 e1 h3 => by
    cases b with
    | true => exact iteT ((h1 rfl).run X c0 W tk F1 σ H1 h3 D (meet.mono e1 m))
    | false => exact iteF ((h2 rfl).run X c0 W tk F1 σ H1 h3 D (meet.mono e1 m)))
/-- if c: ta, which does not go on -/
theorem ss_when {b : Bool} {r1 r2 : B} (ι : B → Out S R) (h : T G C c Γ O b) (hn : ∀ s, ι r1 ≠ .nx s) (h1 : b = true → SS G C ta Γ O k (ι r1)) (h2 : b = false → SS G C ss Γ O k (ι r2)) : SS G C (.If c ta [] pos :: ss) Γ O k (ι (if b then r1 else r2)) := .mk fun X c0 W tk F σ H hh D m =>
  wss_of (t := tSeq (tIfS (WT X c) (WSs X ta) tNext) (WSs X ss)) (pss_cons (ps_if pt_can pss_can pss_nil) pss_can) (h.run X c0 F σ H hh _ fun F1 H1 e1 h3 => by
    cases b with
    | true =>
      refine iteT ((h1 rfl).run X c0 W tk F1 σ H1 h3 _ ?_)
      have m1 := meet.mono e1 m
      rw [if_pos rfl] at m1
      revert m1 hn
      generalize ι r1 = o1
      intro hn m1
      cases o1 with
      | nx s => exact absurd rfl (hn s)
      | rt r => exact m1
      | ex x => exact m1
    | false => exact iteF ((h2 rfl).run X c0 W tk F1 σ H1 h3 D (meet.mono e1 m)))
/-- both ways go on -/
theorem ss_join {b : Bool} {s1 s2 : S1} {g : S1 → B} (Γ1 : S1 → Fr) (O1 : S1 → Own) (ι : B → Out S R) (h : T G C c Γ O b) (h1 : b = true → SS G C ta Γ O (k.to fun s => SD.of (Γ1 s) (O1 s)) (.nx s1)) (h2 : b = false → SS G C tb Γ O (k.to fun s => SD.of (Γ1 s) (O1 s)) (.nx s2))
    (hr : ∀ s, s = (if b then s1 else s2) → SS G C ss (Γ1 s) (O1 s) k (ι (g s))) : SS G C (.If c ta tb pos :: ss) Γ O k (ι (lt (if b then s1 else s2) g)) := .mk fun X c0 W tk F σ H hh D m =>
  wss_of (t := tSeq (tIfS (WT X c) (WSs X ta) (WSs X tb)) (WSs X ss)) (pss_cons (ps_if pt_can pss_can pss_can) pss_can) (h.run X c0 F σ H hh _ fun F1 H1 e1 h3 => by
    have fin : ∀ F', Gw F1 F' → ∀ σ' H', (SD.of (Γ1 (if b then s1 else s2)) (O1 (if b then s1 else s2))).ok F' σ' H' → WSs X ss D σ' H' := fun F' e' σ' H' ⟨F2, e2, h4⟩ => (hr _ rfl).run X c0 W tk F2 σ' H' h4 D (meet.mono ((e1.trans e').trans e2) m)
    cases b with
    | true => exact iteT ((h1 rfl).run X c0 W tk F1 σ H1 h3 _ fun σ' H' q => fin F1 (Gw.refl _) σ' H' q)
    | false => exact iteF ((h2 rfl).run X c0 W tk F1 σ H1 h3 _ fun σ' H' q => fin F1 (Gw.refl _) σ' H' q))
/-- the first way goes on or ends, the second too; any ends -/
def Out.bind (o : Out S1 R) (g : S1 → Out S R) : Out S R := match o with
  | .nx s => g s
  | .rt r => .rt r
  | .ex x => .ex x
theorem ss_bindif {b : Bool} {o1 o2 : Out S1 R} {g : S1 → Out S R} (Γ1 : S1 → Fr) (O1 : S1 → Own) (h : T G C c Γ O b) (h1 : b = true → SS G C ta Γ O (k.to fun s => SD.of (Γ1 s) (O1 s)) o1) (h2 : b = false → SS G C tb Γ O (k.to fun s => SD.of (Γ1 s) (O1 s)) o2)
    (hr : ∀ s, (if b then o1 else o2) = .nx s → SS G C ss (Γ1 s) (O1 s) k (g s)) : SS G C (.If c ta tb pos :: ss) Γ O k ((if b then o1 else o2).bind g) := .mk fun X c0 W tk F σ H hh D m =>
  wss_of (t := tSeq (tIfS (WT X c) (WSs X ta) (WSs X tb)) (WSs X ss)) (pss_cons (ps_if pt_can pss_can pss_can) pss_can) (h.run X c0 F σ H hh _ fun F1 H1 e1 h3 => by
    have fin : ∀ o' : Out S1 R, o' = (if b then o1 else o2) → meet (k.to fun s => SD.of (Γ1 s) (O1 s)) F1 { D with nx := WSs X ss D } W o' := fun o' eo => by
      have m1 := meet.mono e1 m
      rw [← eo] at m1 hr
      cases o' with
      | nx s =>
        intro σ' H' q
        obtain ⟨F2, e2, h4⟩ := q
        exact (hr s rfl).run X c0 W tk F2 σ' H' h4 D (meet.mono e2 m1)
      | rt r => exact m1
      | ex x => exact m1
    cases b with
    | true => exact iteT ((h1 rfl).run X c0 W tk F1 σ H1 h3 _ (fin o1 rfl))
    | false => exact iteF ((h2 rfl).run X c0 W tk F1 σ H1 h3 _ (fin o2 rfl)))
end
end Kn

/-! Fw4: loops, comprehensions. -/
namespace Kn
open PySem PySem.Spec L2

/-! ### targets -/
def WG (X : Cx) (tg : Expr) : TG := fun v σ H Q => ∀ (pins : List (Addr × Obj)) (s : Shared) (u : Value), Inv X pins σ H s → RelV v u → wpAny (model X.prog X.w) X.A (assign tg X.env u) (fun _ s' => ∃ σ' H', Inv X pins σ' H' s' ∧ Q σ' H') X.xe s
theorem pg_can {X : Cx} {tg : Expr} : PG X tg (WG X tg) := ⟨fun pins s _ _ _ u _ I r h => h pins s u I r⟩
def WGs (X : Cx) (ts : List Expr) : TGs := fun vs σ H Q => ∀ (pins : List (Addr × Obj)) (s : Shared) (us : List Value), Inv X pins σ H s → Vals vs us → wpAny (model X.prog X.w) X.A (assignInOrder ((assignEach ts X.env).map (·.2)) us) (fun _ s' => ∃ σ' H', Inv X pins σ' H' s' ∧ Q σ' H') X.xe s
theorem pgs_can {X : Cx} {ts : List Expr} : PGs X ts (WGs X ts) := ⟨fun pins s _ _ _ us _ I r h => h pins s us I r⟩
/-- but at is nothing is changed -/
def But (is : List Nat) (σ σ' : L2.St) : Prop := σ'.length = σ.length ∧ ∀ j, j ∉ is → σ'[j]? = σ[j]?
theorem But.refl {is : List Nat} {σ : L2.St} : But is σ σ := ⟨rfl, fun _ _ => rfl⟩
theorem But.trans {is js : List Nat} {σ σ1 σ2 : L2.St} (a : But is σ σ1) (b : But js σ1 σ2) : But (is ++ js) σ σ2 := ⟨b.1.trans a.1, fun j h => (b.2 j fun z => h (List.mem_append_right _ z)).trans (a.2 j fun z => h (List.mem_append_left _ z))⟩
theorem But.set {i : Nat} {σ : L2.St} {v : Option V} : But [i] σ (σ.set i v) := ⟨List.length_set .., fun j h => List.getElem?_set_ne fun e => h (by rw [e]; exact List.mem_singleton.mpr rfl)⟩
/-- the target takes a d: from Γ to Γ', at the slots is -/
structure TJ (G : Cfg) (C : Sc) (tg : Expr) (d : D) (Γ Γ' : Fr) (is : List Nat) : Prop where
  run : ∀ X, InC G C X → ∀ (F : Hp) (O : Own) (σ : L2.St) (H : Hp) (v : V), Hold F Γ O σ H → d.ok F v → ∀ Q : L2.St → Hp → Prop, (∀ σ', Hold F Γ' O σ' H → But is σ σ' → Q σ' H) → WG X tg v σ H Q
structure TJs (G : Cfg) (C : Sc) (ts : List Expr) (ds : List D) (Γ Γ' : Fr) (is : List Nat) : Prop where
  run : ∀ X, InC G C X → ∀ (F : Hp) (O : Own) (σ : L2.St) (H : Hp) (vs : List V), Hold F Γ O σ H → AllD F ds vs → ∀ Q : L2.St → Hp → Prop, (∀ σ', Hold F Γ' O σ' H → But is σ σ' → Q σ' H) → WGs X ts vs σ H Q

/-! ### mirrors of loops -/
def forL {S α R : Type} (f : S → α → Out S R) : List α → S → Out S R
  | [], s => .nx s
  | x :: xs, s => match f s x with
    | .nx s' => forL f xs s'
    | .rt r => .rt r
    | .ex e => .ex e
theorem forL_snoc {S α R : Type} {f : S → α → Out S R} {x : α} {post : List α} : ∀ {pre : List α} {s0 s : S}, forL f pre s0 = .nx s → forL f (pre ++ x :: post) s0 = (match f s x with
    | .nx s' => forL f post s'
    | .rt r => .rt r
    | .ex e => .ex e)
  | [], s0, s, h => by cases h; rfl
  | y :: pre, s0, s, h => by
    have h1 : (match f s0 y with
      | .nx s' => forL f pre s'
      | .rt r => .rt r
      | .ex e => .ex e) = Out.nx s := h
    show (match f s0 y with
      | .nx s' => forL f (pre ++ x :: post) s'
      | .rt r => .rt r
      | .ex e => .ex e) = _
    cases e : f s0 y with
    | nx s' => rw [e] at h1; exact forL_snoc (pre := pre) h1
    | rt r => rw [e] at h1; cases h1
    | ex r => rw [e] at h1; cases h1
theorem forL_fold {S α R : Type} {h : S → α → S} : ∀ {xs : List α} {s0 : S}, forL (R := R) (fun s x => .nx (h s x)) xs s0 = .nx (xs.foldl h s0)
  | [], _ => rfl
  | _ :: xs, _ => forL_fold (xs := xs)

/-- what an iterator yields -/
structure Feeds (P : Own → Prop) (J : It) (F0 : Hp) (ds : List D) : Prop where
  item : ∀ (i : Nat) (d : D), ds[i]? = some d → ∀ F O H, P O → Gw F0 F → HoldO F O H → J.go i H ∧ ∀ x H', J.yld i H x H' → ∃ F', Gw F F' ∧ HoldO F' O H' ∧ d.ok F' x
  stop : ∀ F O H, P O → Gw F0 F → HoldO F O H → J.stop ds.length H
theorem Feeds.mono {P : Own → Prop} {J : It} {F F' : Hp} {ds : List D} (h : Feeds P J F ds) (e : Gw F F') : Feeds P J F' ds := ⟨fun i d q F1 O H p e1 => h.item i d q F1 O H p (e.trans e1), fun F1 O H p e1 => h.stop F1 O H p (e.trans e1)⟩
def WI (X : Cx) (tg e : Expr) : TI := fun σ H R => ∀ (pins : List (Addr × Obj)) (s : Shared), Inv X pins σ H s → wpAny (model X.prog X.w) X.A (eval e X.env) (fun v s1 => wpAny (model X.prog X.w) X.A (pyIter v) (PIE X pins σ tg R) X.xe s1) X.xe s
theorem pi_can {X : Cx} {tg e : Expr} : PI X tg e (WI X tg e) := ⟨fun pins s _ _ _ I h => h pins s I⟩
theorem wi_of {X : Cx} {tg e : Expr} {t : TI} {σ : L2.St} {H : Hp} {R : It → Hp → Prop} (h : PI X tg e t) (q : t σ H R) : WI X tg e σ H R := fun pins s I => h.run pins s σ H R I q
structure EI (G : Cfg) (C : Sc) (tg e : Expr) (Γ : Fr) (O : Own) (P : Own → Prop) (ds : List D) : Prop where
  run : ∀ X, InC G C X → ∀ (F : Hp) (σ : L2.St) (H : Hp), Hold F Γ O σ H → ∀ R : It → Hp → Prop, (∀ J F' H', Gw F F' → Hold F' Γ O σ H' → Feeds P J F' ds → R J H') → WI X tg e σ H R
abbrev anyO : Own → Prop := fun _ => True

section
variable {G : Cfg} {C : Sc} {Γ Γ' : Fr} {O O' : Own} {S S1 R B α : Type} {k : Ek S R} {o : Out S R} {e c it tg : Expr} {d : D} {ds : List D} {ss body : List Stmt} {st : Stmt} {pos p1 p2 : Pos} {x : Str} {es : List Expr} {P : Own → Prop} {is : List Nat}
theorem tj_name {i : Nat} (l : Loca C i x) : TJ G C (.Name x pos) d Γ (Γ.set i (some d)) [i] := .mk fun X c F O σ H v hh hd Q q pins s u I r =>
  (l.pg c).run pins s σ H v u Q I r (q _ (hh.set i hd) But.set)
theorem tjs_nil : TJs G C [] [] Γ Γ [] := .mk fun X c F O σ H vs hh hd Q q pins s us I r => by
  cases vs with
  | nil => exact pgs_nil.run pins s σ H [] us Q I r ⟨rfl, q σ hh But.refl⟩
  | cons v vs => exact hd.elim
theorem tjs_cons {Γ2 : Fr} {is js : List Nat} (h : TJ G C e d Γ Γ' is) (hr : TJs G C es ds Γ' Γ2 js) (hs : ∀ env, (assignEach (e :: es) env).map (·.2) = assign e env :: (assignEach es env).map (·.2)) : TJs G C (e :: es) (d :: ds) Γ Γ2 (is ++ js) := .mk fun X c F O σ H vs hh hd Q q pins s us I r => by
  cases vs with
  | nil => exact hd.elim
  | cons v vs => exact (pgs_cons pg_can pgs_can (hs X.env)).run pins s σ H (v :: vs) us Q I r ⟨v, vs, rfl, h.run X c F O σ H v hh hd.1 _ fun σ1 h1 b1 => hr.run X c F O σ1 H vs h1 hd.2 Q fun σ2 h2 b2 => q σ2 h2 (b1.trans b2)⟩
theorem tj_tup {kk : Nat} {is : List Nat} (h : TJs G C es ds Γ Γ' is) (hn : ∀ env, (assignEach es env).length = ds.length) (hst : ∀ env, (assignEach es env).findIdx? (·.1) = none) : TJ G C (.Tuple es kk pos) (dTup G.K ds) Γ Γ' is := .mk fun X c F O σ H v hh hd Q q pins s u I r => by
  obtain ⟨a, vs, rfl, hs, ha⟩ := hd
  refine (pg_tup c.calm pgs_can (hn X.env) (hst X.env)).run pins s σ H _ u Q I r ⟨a, vs, rfl, by rw [c.K]; exact gw_t hh.ho.ex hs, AllD.length ha, ?_⟩
  exact h.run X c F O σ H vs hh ha Q q
/-! ### for -/
theorem ss_for {df : α → D} {xs : List α} {f : S1 → α → Out S1 R} {s0 : S1} {g : S1 → Out S R} (Γ1 : S1 → Fr) (Γ2 : S1 → α → Fr) (O1 : S1 → Own) (hi : EI G C tg it Γ O P (xs.map df)) (l0 : FrLe Γ (Γ1 s0)) (o0 : O = O1 s0) (hP : ∀ s, P (O1 s))
    (hg : ∀ s x, TJ G C tg (df x) (Γ1 s) (Γ2 s x) is)
    (hb : ∀ s x pre post, xs = pre ++ x :: post → forL f pre s0 = .nx s → SS G C body (Γ2 s x) (O1 s) (k.to fun s => SD.of (Γ1 s) (O1 s)) (f s x))
    (hr : ∀ s, forL f xs s0 = .nx s → SS G C ss (Γ1 s) (O1 s) k (g s)) (hs : ∀ env x, foldedSetIterable it env x = pure x) : SS G C (.For tg it body [] pos :: ss) Γ O k ((forL f xs s0).bind g) :=
  ss_cons (t := fun X => tFor (WI X tg it) (WG X tg) (WSs X body)) (fun X c => ps_for c.po c.calm pi_can pg_can pss_can (hs X.env)) fun X c W tk F σ H hh D m => by
    refine hi.run X c F σ H hh _ fun J F1 H1 e1 h1 fd => ?_
    refine ⟨fun i mm σ' H' => ∃ s F', mm = xs.length - i ∧ i ≤ xs.length ∧ forL f (xs.take i) s0 = .nx s ∧ Gw F1 F' ∧ Hold F' (Γ1 s) (O1 s) σ' H', ⟨xs.length, s0, F1, rfl, Nat.zero_le _, rfl, Gw.refl _, h1.fr.le l0, o0 ▸ h1.ho⟩, ?_⟩
    rintro i mm σ' H' ⟨s, F', rfl, hil, hf, e2, h2⟩
    by_cases hlt : i < xs.length
    · refine .inr ⟨?_, ?_⟩
      · have hd : (xs.map df)[i]? = some (df xs[i]) := by rw [List.getElem?_map, List.getElem?_eq_getElem hlt]; rfl
        exact (fd.item i _ hd F' (O1 s) H' (hP s) e2 h2.ho).1
      · have hd : (xs.map df)[i]? = some (df xs[i]) := by rw [List.getElem?_map, List.getElem?_eq_getElem hlt]; rfl
        have hsplit : xs = xs.take i ++ xs[i] :: xs.drop (i + 1) := by
          have a := List.take_append_drop i xs
          rw [List.drop_eq_getElem_cons hlt] at a
          exact a.symm
        refine ⟨fun σ3 H3 => ∃ s3 F3, f s xs[i] = .nx s3 ∧ Gw F1 F3 ∧ Hold F3 (Γ1 s3) (O1 s3) σ3 H3, ?_, fun x H3 hy => ?_⟩
        · rintro σ3 H3 ⟨s3, F3, e3, x3, h3⟩
          refine ⟨xs.length - (i + 1), by omega, s3, F3, rfl, hlt, ?_, x3, h3⟩
          have a : xs.take (i + 1) = xs.take i ++ xs[i] :: [] := List.take_succ_eq_append_getElem hlt
          rw [a, forL_snoc hf, e3]
          rfl
        · obtain ⟨F3, e3, h3, d3⟩ := (fd.item i _ hd F' (O1 s) H' (hP s) e2 h2.ho).2 x H3 hy
          refine (hg s xs[i]).run X c F3 (O1 s) σ' H3 x ⟨h2.fr.mono e3, h3⟩ d3 _ fun σ4 h4 _ => ?_
          refine (hb s xs[i] (xs.take i) (xs.drop (i + 1)) hsplit hf).run X c W tk F3 σ4 H3 h4 _ ?_
          have me : forL f xs s0 = (match f s xs[i] with
            | .nx s' => forL f (xs.drop (i + 1)) s'
            | .rt r => .rt r
            | .ex e => .ex e) := by
            have a := forL_snoc (f := f) (x := xs[i]) (post := xs.drop (i + 1)) hf
            rw [← hsplit] at a
            exact a
          have m1 := meet.mono ((e1.trans e2).trans e3) m
          rw [me] at m1
          cases ef : f s xs[i] with
          | nx s' =>
            intro σ5 H5 q
            obtain ⟨F5, e5, h5⟩ := q
            exact ⟨s', F5, rfl, (e2.trans e3).trans e5, h5⟩
          | rt r =>
            rw [ef] at m1
            exact m1
          | ex r =>
            rw [ef] at m1
            exact m1
    · have hi' : i = xs.length := by omega
      subst hi'
      refine .inl ⟨?_, ?_⟩
      · have a := fd.stop F' (O1 s) H' (hP s) e2 h2.ho
        rw [List.length_map] at a
        exact a
      · rw [List.take_length] at hf
        refine (hr s hf).run X c W tk F' σ' H' h2 D ?_
        have m1 := meet.mono (e1.trans e2) m
        rw [hf] at m1
        exact m1
/-- a loop whose turns go on -/
theorem ss_fold {df : α → D} {xs : List α} {f : S1 → α → S1} {s0 : S1} {g : S1 → B} (ι : B → Out S R) (Γ1 : S1 → Fr) (Γ2 : S1 → α → Fr) (O1 : S1 → Own) (hi : EI G C tg it Γ O P (xs.map df)) (l0 : FrLe Γ (Γ1 s0)) (o0 : O = O1 s0) (hP : ∀ s, P (O1 s))
    (hg : ∀ s x, TJ G C tg (df x) (Γ1 s) (Γ2 s x) is)
    (hb : ∀ s x pre post, xs = pre ++ x :: post → s = pre.foldl f s0 → SS G C body (Γ2 s x) (O1 s) (k.to fun s => SD.of (Γ1 s) (O1 s)) (.nx (f s x)))
    (hr : ∀ s, s = xs.foldl f s0 → SS G C ss (Γ1 s) (O1 s) k (ι (g s))) (hs : ∀ env x, foldedSetIterable it env x = pure x) : SS G C (.For tg it body [] pos :: ss) Γ O k (ι (lt (xs.foldl f s0) g)) := by
  have a := ss_for (ss := ss) (pos := pos) (k := k) (g := fun s => ι (g s)) (f := fun s x => .nx (f s x)) Γ1 Γ2 O1 hi l0 o0 hP hg (fun s x pre post e h => hb s x pre post e (by rw [forL_fold] at h; cases h; rfl)) (fun s h => hr s (by rw [forL_fold] at h; cases h; rfl)) hs
  rw [forL_fold] at a
  exact a
/-! ### what is walked -/
theorem ei_list (h : E G C it Γ O (dLst G.K ds)) : EI G C tg it Γ O anyO ds := .mk fun X c F σ H hh R q =>
  wi_of (pi_list pe_can) (h.run X c F σ H hh _ fun F1 H1 v e1 h1 d1 => by
    obtain ⟨a, vs, rfl, hs, ha⟩ := d1
    have hs' : ∀ {F' O' H'}, Gw F1 F' → HoldO F' O' H' → SqL X.K H' a vs := fun e h => by rw [c.K]; exact gw_l (e.trans h.ex) hs.sq
    refine ⟨a, rfl, ⟨vs, hs' (Gw.refl _) h1.ho⟩, q _ F1 H1 e1 h1 ⟨fun i d hd F O H _ e h => ?_, fun F O H _ e h => ?_⟩⟩
    · obtain ⟨v, hv, dv⟩ := AllD.get ha hd
      refine ⟨⟨vs, v, hs' e h, hv⟩, fun x H' hy => ?_⟩
      obtain ⟨rfl, hx⟩ := hy
      have z := hx vs (hs' e h)
      rw [hv] at z
      cases z
      exact ⟨F, Gw.refl F, h, d.mono e dv⟩
    · exact ⟨vs, hs' e h, by rw [AllD.length ha]; exact Nat.le_refl _⟩)
theorem ei_tup (h : E G C it Γ O (dTup G.K ds)) : EI G C tg it Γ O anyO ds := .mk fun X c F σ H hh R q =>
  wi_of (pi_tup pe_can) (h.run X c F σ H hh _ fun F1 H1 v e1 h1 d1 => by
    obtain ⟨a, vs, rfl, hs, ha⟩ := d1
    have hs' : ∀ {F' O' H'}, Gw F1 F' → HoldO F' O' H' → SqT X.K H' a vs := fun e h => by rw [c.K]; exact gw_t (e.trans h.ex) hs
    refine ⟨a, rfl, ⟨vs, hs' (Gw.refl _) h1.ho⟩, q _ F1 H1 e1 h1 ⟨fun i d hd F O H _ e h => ?_, fun F O H _ e h => ?_⟩⟩
    · obtain ⟨v, hv, dv⟩ := AllD.get ha hd
      refine ⟨⟨vs, v, hs' e h, hv⟩, fun x H' hy => ?_⟩
      obtain ⟨rfl, hx⟩ := hy
      have z := hx vs (hs' e h)
      rw [hv] at z
      cases z
      exact ⟨F, Gw.refl F, h, d.mono e dv⟩
    · exact ⟨vs, hs' e h, by rw [AllD.length ha]; exact Nat.le_refl _⟩)
def signs (z : Str) : List Str := z.cps.toList.map fun c => ⟨#[c]⟩
theorem ei_str {z : Str} (h : E G C it Γ O (dS z)) : EI G C tg it Γ O anyO ((signs z).map dS) := .mk fun X c F σ H hh R q =>
  wi_of (pi_str pe_can) (h.run X c F σ H hh _ fun F1 H1 v e1 h1 d1 => by
    refine ⟨z, d1.1, q _ F1 H1 e1 h1 ⟨fun i d hd F O H _ e h => ?_, fun F O H _ e h => ?_⟩⟩
    · unfold signs at hd
      rw [List.getElem?_map, List.getElem?_map, Array.getElem?_toList] at hd
      cases hz : z.cps[i]? with
      | none => rw [hz] at hd; cases hd
      | some cc =>
        rw [hz] at hd
        cases hd
        refine ⟨(Array.getElem?_eq_some_iff.mp hz).1, fun x H' hy => ?_⟩
        obtain ⟨rfl, c', hc', rfl⟩ := hy
        rw [hz] at hc'
        cases hc'
        exact ⟨F, Gw.refl F, h, rfl, okS_sign d1.2 (Array.mem_toList_iff.mpr (Array.mem_of_getElem? hz))⟩
    · show z.cps.size ≤ _
      unfold signs
      rw [List.length_map, List.length_map, Array.length_toList]
      exact Nat.le_refl _)
def upto (n : Int) : List Int := (List.range n.toNat).map fun i => ((i : Nat) : Int)
def range2 (a b : Int) : List Int := (List.range (b - a).toNat).map fun i => a + ((i : Nat) : Int)
theorem ei_range {a : Expr} {n : Int} (g : Glo C "range") (hm : G.mg "range" = none) (h : E G C a Γ O (dI n)) (hn : -(2 ^ 62) ≤ n ∧ n < 2 ^ 62) (hs : ∀ env, starEach [a] env = [(false, eval a env)]) : EI G C tg (.Call (.Name "range" p1) [a] [] pos) Γ O anyO ((upto n).map dI) := .mk fun X c F σ H hh R q =>
  wi_of (pi_range1 (c.gl g) (by rw [c.mg]; exact hm) (pa_cons pe_can pa_nil (by rw [hs]; rfl)) (hs X.env)) (h.run X c F σ H hh _ fun F1 H1 v e1 h1 d1 => by
    refine ⟨n, by rw [show v = .int n from d1], hn.1, hn.2, q _ F1 H1 e1 h1 ⟨fun i d hd F O H _ e h => ?_, fun F O H _ e h => ?_⟩⟩
    · unfold upto at hd
      rw [List.getElem?_map, List.getElem?_map] at hd
      by_cases hi : i < n.toNat
      · rw [List.getElem?_range hi] at hd
        cases hd
        refine ⟨hi, fun x H' hy => ?_⟩
        obtain ⟨rfl, rfl⟩ := hy
        exact ⟨F, Gw.refl F, h, by rw [Int.zero_add]; rfl⟩
      · rw [List.getElem?_eq_none (by rw [List.length_range]; omega)] at hd
        cases hd
    · show n.toNat ≤ _
      unfold upto
      rw [List.length_map, List.length_map, List.length_range]
      exact Nat.le_refl _)
theorem ei_range2 {a b : Expr} {m n : Int} (g : Glo C "range") (hm : G.mg "range" = none) (h : A G C [a, b] Γ O [dI m, dI n]) (hn : -(2 ^ 62) ≤ m ∧ m < 2 ^ 62 ∧ -(2 ^ 62) ≤ n ∧ n < 2 ^ 62) (hs : ∀ env, starEach [a, b] env = [(false, eval a env), (false, eval b env)]) (hs2 : ∀ env, starEach [b] env = [(false, eval b env)]) : EI G C tg (.Call (.Name "range" p1) [a, b] [] pos) Γ O anyO ((range2 m n).map dI) := .mk fun X c F σ H hh R q =>
  wi_of (pi_range2 (c.gl g) (by rw [c.mg]; exact hm) pa_can (hs X.env) (hs2 X.env)) (h.run X c F σ H hh _ fun F1 H1 vs e1 h1 d1 => by
    obtain ⟨v, u, rfl, dv, du⟩ : ∃ v u, vs = [v, u] ∧ v = .int m ∧ u = .int n := by
      match vs, d1 with
      | [v, u], d1 => exact ⟨v, u, rfl, d1.1, d1.2.1⟩
      | [], d1 => exact d1.elim
      | [_], d1 => exact d1.2.elim
      | _ :: _ :: _ :: _, d1 => exact d1.2.2.elim
    subst dv du
    refine ⟨m, n, rfl, hn, q _ F1 H1 e1 h1 ⟨fun i d hd F O H _ e h => ?_, fun F O H _ e h => ?_⟩⟩
    · unfold range2 at hd
      rw [List.getElem?_map, List.getElem?_map] at hd
      by_cases hi : i < (n - m).toNat
      · rw [List.getElem?_range hi] at hd
        cases hd
        refine ⟨hi, fun x H' hy => ?_⟩
        obtain ⟨rfl, rfl⟩ := hy
        exact ⟨F, Gw.refl F, h, rfl⟩
      · rw [List.getElem?_eq_none (by rw [List.length_range]; omega)] at hd
        cases hd
    · show (n - m).toNat ≤ _
      unfold range2
      rw [List.length_map, List.length_map, List.length_range]
      exact Nat.le_refl _)
end
end Kn

/-! Fw5: subscripts, slices, built-ins, methods of built-in types. -/
namespace Kn
open PySem PySem.Spec L2

/-- an item by an int, from the end where it is below nought -/
def nth {α : Type} [Inhabited α] (xs : List α) (i : Int) : α := (atI xs i).getD default
def inR (n : Nat) (i : Int) : Prop := -(n : Int) ≤ i ∧ i < n
theorem ixN_some {n : Nat} {i : Int} (h : inR n i) : ∃ j, ixN n i = some j ∧ j < n := by
  obtain ⟨h1, h2⟩ := h
  unfold ixN
  by_cases h0 : 0 ≤ i
  · rw [if_pos h0, if_pos h2]
    exact ⟨_, rfl, by omega⟩
  · rw [if_neg h0, if_pos h1]
    exact ⟨_, rfl, by omega⟩
theorem atI_nth {α : Type} [Inhabited α] {xs : List α} {i : Int} (h : inR xs.length i) : atI xs i = some (nth xs i) := by
  obtain ⟨j, e, hj⟩ := ixN_some h
  have a : atI xs i = some xs[j] := by
    unfold atI
    rw [e]
    exact List.getElem?_eq_getElem hj
  unfold nth
  rw [a]
  rfl
theorem nth_nat {α : Type} [Inhabited α] {xs : List α} {i : Int} (h0 : 0 ≤ i) (h : i < xs.length) : nth xs i = xs[i.toNat]'(by omega) := by
  unfold nth atI ixN
  rw [if_pos h0, if_pos h]
  show ((xs[i.toNat]?).getD default) = _
  rw [List.getElem?_eq_getElem (by omega)]
  rfl
theorem atI_map {α β : Type} (f : α → β) (xs : List α) (i : Int) : atI (xs.map f) i = (atI xs i).map f := by
  unfold atI
  rw [List.length_map]
  cases ixN xs.length i with
  | none => rfl
  | some j => exact List.getElem?_map ..
theorem AllD.atI {F : Hp} {ds : List D} {vs : List V} {i : Int} {d : D} (h : AllD F ds vs) (e : L2.atI ds i = some d) : ∃ v, L2.atI vs i = some v ∧ d.ok F v := by
  unfold L2.atI at e ⊢
  rw [AllD.length h]
  cases q : ixN ds.length i with
  | none => rw [q] at e; cases e
  | some j => rw [q] at e; exact AllD.get h e
/-- a part of a list -/
def cut {α : Type} (xs : List α) (lo hi : Option Int) : List α := (xs.drop (HT.sIx xs.length 0 lo)).take (HT.sIx xs.length xs.length hi - HT.sIx xs.length 0 lo)
theorem cut_map {α β : Type} (f : α → β) (xs : List α) (lo hi : Option Int) : cut (xs.map f) lo hi = (cut xs lo hi).map f := by
  unfold cut
  rw [List.length_map, List.map_take, List.map_drop]
theorem AllD.cut {F : Hp} {ds : List D} {vs : List V} (lo hi : Option Int) (h : AllD F ds vs) : AllD F (cut ds lo hi) (cutV vs lo hi) := by
  unfold Kn.cut cutV
  rw [AllD.length h]
  exact AllD.take _ (AllD.drop _ h)

/-- a part of a slice -/
structure EO (G : Cfg) (C : Sc) (e : Option Expr) (Γ : Fr) (O : Own) (i : Option Int) : Prop where
  run : ∀ X, InC G C X → ∃ t, PO X e t ∧ ∀ (F : Hp) (σ : L2.St) (H : Hp), Hold F Γ O σ H → ∀ Q : Option Int → Hp → Prop, (∀ F' H', Gw F F' → Hold F' Γ O σ H' → Q i H') → t σ H Q
/-- what a built-in's call upon described values gives -/
structure CalR (G : Cfg) (C : Sc) (f : Value) (O : Own) (ds : List D) (d : D) : Prop where
  ex : ∀ X, InC G C X → ∃ r, CallR X f r ∧ RCD r O ds d
structure CalN (G : Cfg) (C : Sc) (f : Value) (O : Own) (ds : List D) (od : OD) : Prop where
  ex : ∀ X, InC G C X → ∃ r, CallR X f r ∧ RCN r O ds od

section
variable {G : Cfg} {C : Sc} {Γ : Fr} {O : Own} {e a b c : Expr} {es : List Expr} {d da db dc : D} {ds : List D} {pos p1 p2 p3 : Pos} {x : Str} {α : Type} {f : α → D}
theorem eo_none : EO G C none Γ O none := .mk fun X c => ⟨_, po_none, fun F σ H hh Q q => q F H (Gw.refl F) hh⟩
theorem eo_some {i : Int} (h : E G C e Γ O (dI i)) : EO G C (some e) Γ O (some i) := .mk fun X c => ⟨_, po_some pe_can, fun F σ H hh Q q => h.run X c F σ H hh _ fun F1 H1 v e1 h1 d1 => ⟨i, d1, q F1 H1 e1 h1⟩⟩
/-! ### items -/
theorem e_ix {r : R2} (hr : ∀ X, InC G C X → IxR X r) (h : R2D r O da db d) (ha : E G C a Γ O da) (hb : E G C b Γ O db) (hs : PlainIx b) : E G C (.Subscript a b pos) Γ O d := .mk fun X c F σ H hh Q q => by
  refine we_of (pe_ix (hr X c) pe_can pe_can hs) (ha.run X c F σ H hh _ fun F1 H1 v e1 h1 d1 => ?_)
  refine hb.run X c F1 σ H1 h1 _ fun F2 H2 u e2 h2 d2 => ?_
  exact h F2 H2 v u h2.ho (da.mono e2 d1) d2 _ fun F3 H3 z e3 h3 d3 => q F3 H3 z ((e1.trans e2).trans e3) (h2.mono e3 h3) d3
theorem e_ixL {i : Int} (hi : atI ds i = some d) (ha : E G C a Γ O (dLst G.K ds)) (hb : E G C b Γ O (dI i)) (hs : PlainIx b) : E G C (.Subscript a b pos) Γ O d :=
  e_ix (r := rIxL G.K) (fun X c => c.K ▸ ix_list) (fun F H v u hh h1 h2 Q q => by
    obtain ⟨p, vs, rfl, hs, ha⟩ := h1
    obtain ⟨w, hw, dw⟩ := AllD.atI ha hi
    exact ⟨p, vs, i, w, rfl, h2, gw_l hh.ex hs.sq, hw, q F H w (Gw.refl F) hh dw⟩) ha hb hs
theorem e_ixT {i : Int} (hi : atI ds i = some d) (ha : E G C a Γ O (dTup G.K ds)) (hb : E G C b Γ O (dI i)) (hs : PlainIx b) : E G C (.Subscript a b pos) Γ O d :=
  e_ix (r := rIxT G.K) (fun X c => c.K ▸ ix_tup) (fun F H v u hh h1 h2 Q q => by
    obtain ⟨p, vs, rfl, hs, ha⟩ := h1
    obtain ⟨w, hw, dw⟩ := AllD.atI ha hi
    exact ⟨p, vs, i, w, rfl, h2, gw_t hh.ex hs, hw, q F H w (Gw.refl F) hh dw⟩) ha hb hs
/-- a list of one's own -/
theorem e_ixO {i : Int} {k : Nat} {p : Addr} (hk : O[k]? = some (p, oLst ds)) (hi : atI ds i = some d) (ha : E G C a Γ O (dP p)) (hb : E G C b Γ O (dI i)) (hs : PlainIx b) : E G C (.Subscript a b pos) Γ O d :=
  e_ix (r := rIxL G.K) (fun X c => c.K ▸ ix_list) (fun F H v u hh h1 h2 Q q => by
    obtain ⟨_, o, hp, vs, rfl, ha⟩ := hh.at hk
    obtain ⟨w, hw, dw⟩ := AllD.atI ha hi
    exact ⟨p, vs, i, w, h1, h2, SqL.of hp, hw, q F H w (Gw.refl F) hh dw⟩) ha hb hs
theorem e_nthL [Inhabited α] {xs : List α} {i : Int} (ha : E G C a Γ O (dLst G.K (xs.map f))) (hb : E G C b Γ O (dI i)) (hi : inR xs.length i) (hs : PlainIx b) : E G C (.Subscript a b pos) Γ O (f (nth xs i)) :=
  e_ixL (by rw [atI_map, atI_nth hi]; rfl) ha hb hs
theorem e_nthT [Inhabited α] {xs : List α} {i : Int} (ha : E G C a Γ O (dTup G.K (xs.map f))) (hb : E G C b Γ O (dI i)) (hi : inR xs.length i) (hs : PlainIx b) : E G C (.Subscript a b pos) Γ O (f (nth xs i)) :=
  e_ixT (by rw [atI_map, atI_nth hi]; rfl) ha hb hs
theorem e_nthO [Inhabited α] {xs : List α} {i : Int} {k : Nat} {p : Addr} (hk : O[k]? = some (p, oLst (xs.map f))) (ha : E G C a Γ O (dP p)) (hb : E G C b Γ O (dI i)) (hi : inR xs.length i) (hs : PlainIx b) : E G C (.Subscript a b pos) Γ O (f (nth xs i)) :=
  e_ixO hk (by rw [atI_map, atI_nth hi]; rfl) ha hb hs
/-- the sign of a text at a place -/
def signAt (z : Str) (i : Int) : Str := ⟨#[nth z.cps.toList i]⟩
theorem nth_mem {α : Type} [Inhabited α] {xs : List α} {i : Int} (h : inR xs.length i) : nth xs i ∈ xs := by
  have e := atI_nth h
  unfold atI at e
  cases q : ixN xs.length i with
  | none => rw [q] at e; cases e
  | some j => rw [q] at e; exact List.mem_of_getElem? e
theorem okS_signAt {z : Str} {i : Int} (h : okS z) (hi : inR z.length i) : okS (signAt z i) := okS_sign h (nth_mem (by rw [Array.length_toList]; exact hi))
theorem okS_cut {z : Str} {i j : Option Int} (h : okS z) : okS (cutS z i j) := by
  refine ⟨strOk_iff.mpr fun c hc => ?_, Nat.le_trans (cutS_length z i j) h.2⟩
  unfold cutS at hc
  have hc2 : c ∈ (z.cps.toList.drop (HT.sIx z.length 0 i)).take (HT.sIx z.length z.length j - HT.sIx z.length 0 i) := hc
  exact strOk_iff.mp h.1 c (List.mem_of_mem_drop (List.mem_of_mem_take hc2))
theorem e_ixS {z : Str} {i : Int} (ha : E G C a Γ O (dS z)) (hb : E G C b Γ O (dI i)) (hi : inR z.length i) (hs : PlainIx b) : E G C (.Subscript a b pos) Γ O (dS (signAt z i)) :=
  e_ix (r := rIxS) (da := dS z) (db := dI i) (fun X c => ix_str) (fun F H v u hh h1 h2 Q q => ⟨z, i, nth z.cps.toList i, h1.1, h2, h1.2.2, atI_nth (by rw [Array.length_toList]; exact hi), q F H _ (Gw.refl F) hh ⟨rfl, okS_signAt h1.2 hi⟩⟩) ha hb hs
/-! ### slices -/
theorem en_sl {lo hi : Option Expr} {i j : Option Int} (ha : E G C a Γ O (dLst G.K ds)) (hl : EO G C lo Γ O i) (hh : EO G C hi Γ O j) : EN G C (.Subscript a (.Slice lo hi none p2) pos) Γ O (oLst (cut ds i j)) := .mk fun X c F σ H h0 Q q => by
  obtain ⟨tl, pl, ql⟩ := hl.run X c
  obtain ⟨th, ph, qh⟩ := hh.run X c
  refine we_of (pe_slice sl_list pe_can pl ph) (ha.run X c F σ H h0 _ fun F1 H1 v e1 h1 d1 => ?_)
  refine ql F1 σ H1 h1 _ fun F2 H2 e2 h2 => qh F2 σ H2 h2 _ fun F3 H3 e3 h3 => ?_
  obtain ⟨p, vs, rfl, hs, ha⟩ := (dLst G.K ds).mono (e2.trans e3) d1
  exact ⟨p, vs, rfl, by rw [c.K]; exact gw_l h3.ho.ex hs.sq, fun r hr => q F3 _ r ((e1.trans e2).trans e3) ⟨h3.fr, h3.ho.own hr ⟨_, rfl, AllD.cut i j ha⟩⟩⟩
theorem e_slS {z : Str} {lo hi : Option Expr} {i j : Option Int} (ha : E G C a Γ O (dS z)) (hl : EO G C lo Γ O i) (hh : EO G C hi Γ O j) : E G C (.Subscript a (.Slice lo hi none p2) pos) Γ O (dS (cutS z i j)) := .mk fun X c F σ H h0 Q q => by
  obtain ⟨tl, pl, ql⟩ := hl.run X c
  obtain ⟨th, ph, qh⟩ := hh.run X c
  refine we_of (pe_slice sl_str pe_can pl ph) (ha.run X c F σ H h0 _ fun F1 H1 v e1 h1 d1 => ?_)
  refine ql F1 σ H1 h1 _ fun F2 H2 e2 h2 => qh F2 σ H2 h2 _ fun F3 H3 e3 h3 => ?_
  exact ⟨z, d1.1, d1.2.2, q F3 H3 _ ((e1.trans e2).trans e3) h3 ⟨rfl, okS_cut d1.2⟩⟩
theorem en_cut {xs : List α} {lo hi : Option Expr} {i j : Option Int} (ha : E G C a Γ O (dLst G.K (xs.map f))) (hl : EO G C lo Γ O i) (hh : EO G C hi Γ O j) : EN G C (.Subscript a (.Slice lo hi none p2) pos) Γ O (oLst ((cut xs i j).map f)) := by
  rw [← cut_map]; exact en_sl ha hl hh
theorem e_cut {xs : List α} {lo hi : Option Expr} {i j : Option Int} (ha : E G C a Γ O (dLst G.K (xs.map f))) (hl : EO G C lo Γ O i) (hh : EO G C hi Γ O j) : E G C (.Subscript a (.Slice lo hi none p2) pos) Γ O (dLst G.K ((cut xs i j).map f)) := en_lst (en_cut ha hl hh)
/-! ### list + list -/
def rCatL (K : PySem.W.Frag) : R2 := fun x y H Q => ∃ l b xs zs, x = .ref l ∧ y = .ref b ∧ LsA K H l xs ∧ LsA K H b zs ∧ xs.length + zs.length ≤ sizeLine ∧ ∀ p, H p = none → Q (.ref p) (upd H p (.lst (xs ++ zs)))
theorem op_catL {X : Cx} : OpR X (binaryOp .Add) (rCatL X.K) := by
  intro pins s σ H x y v u Q I rx ry h
  obtain ⟨l, b, xs, zs, rfl, rfl, h1, h2, hz, q⟩ := h
  cases rx
  cases ry
  obtain ⟨its, n, r, e, _⟩ := h1.get I
  obtain ⟨its2, n2, r2, e2, _⟩ := h2.get I
  have l1 := r.length
  have l2 := r2.length
  refine PySem.P.add_list e e2 ?_ (by rw [List.size_toArray, List.size_toArray]; omega)
  have ea : its.toArray ++ its2.toArray = (its ++ its2).toArray := by simp
  rw [ea]
  exact ⟨.ref _, _, I.lnew (t' := s.toks) (r.append r2) (by rw [List.length_append]; omega), rfl, q _ I.fresh⟩
theorem en_catD {ds es : List D} (ha : E G C a Γ O (dLst G.K ds)) (hb : E G C b Γ O (dLst G.K es)) (hl : ds.length + es.length ≤ sizeLine) : EN G C (.BinOp a .Add b pos) Γ O (oLst (ds ++ es)) := .mk fun X c F σ H hh Q q => by
  refine we_of (pe_op op_catL pe_can pe_can) (ha.run X c F σ H hh _ fun F1 H1 v e1 h1 d1 => ?_)
  refine hb.run X c F1 σ H1 h1 _ fun F2 H2 u e2 h2 d2 => ?_
  obtain ⟨p, vs, rfl, hs, h3⟩ := (dLst G.K ds).mono e2 d1
  obtain ⟨p', us, rfl, hs', h4⟩ := d2
  refine ⟨p, p', vs, us, rfl, rfl, by rw [c.K]; exact hs.mono h2.ho.ex, by rw [c.K]; exact hs'.mono h2.ho.ex, by rw [AllD.length h3, AllD.length h4]; exact hl, fun r hr => ?_⟩
  exact q F2 _ r (e1.trans e2) ⟨h2.fr, h2.ho.own hr ⟨_, rfl, AllD.append h3 h4⟩⟩
theorem en_cat {xs ys : List α} (ha : E G C a Γ O (dLst G.K (xs.map f))) (hb : E G C b Γ O (dLst G.K (ys.map f))) (hl : xs.length + ys.length ≤ sizeLine) : EN G C (.BinOp a .Add b pos) Γ O (oLst ((xs ++ ys).map f)) := by
  rw [List.map_append]
  exact en_catD ha hb (by rw [List.length_map, List.length_map]; exact hl)
theorem e_cat {xs ys : List α} (ha : E G C a Γ O (dLst G.K (xs.map f))) (hb : E G C b Γ O (dLst G.K (ys.map f))) (hl : xs.length + ys.length ≤ sizeLine) : E G C (.BinOp a .Add b pos) Γ O (dLst G.K ((xs ++ ys).map f)) := en_lst (en_cat ha hb hl)
/-! ### great numbers -/
theorem e_mulW {i j : Int} (ha : E G C a Γ O (dI i)) (hb : E G C b Γ O (dI j)) (hm : CMulW i j) : E G C (.BinOp a .Mult b pos) Γ O (dI (i * j)) := e_op (fun _ _ => op_mulW) (r2_I hm) ha hb
theorem e_divW {i j : Int} (ha : E G C a Γ O (dI i)) (hb : E G C b Γ O (dI j)) (hm : CDivW i j) : E G C (.BinOp a .FloorDiv b pos) Γ O (dI (i / j)) := e_op (fun _ _ => op_fdivW) (r2_I hm) ha hb
/-! ### in, not in -/
theorem c_inS {w : V} {xs : List V} (h1 : flatV w = true) (h2 : xs.all flatV = true) : CmpR G C .In O (dV w) (dLst G.K (xs.map dV)) (inV w xs) := cmp_of (fun X c => c.K ▸ op_in_seq) fun F H v u hh e1 h Q q => by
  obtain ⟨p, vs, rfl, hs, ha⟩ := h
  have ev := AllD.dV ha
  subst ev
  cases e1
  exact ⟨p, vs, rfl, .inl (gw_l hh.ex hs.sq), h1, h2, q F H _ (Gw.refl F) hh rfl⟩
theorem c_ninS {w : V} {xs : List V} (h1 : flatV w = true) (h2 : xs.all flatV = true) : CmpR G C .NotIn O (dV w) (dLst G.K (xs.map dV)) (!inV w xs) := cmp_of (fun X c => c.K ▸ op_notIn_seq) fun F H v u hh e1 h Q q => by
  obtain ⟨p, vs, rfl, hs, ha⟩ := h
  have ev := AllD.dV ha
  subst ev
  cases e1
  exact ⟨p, vs, rfl, .inl (gw_l hh.ex hs.sq), h1, h2, q F H _ (Gw.refl F) hh rfl⟩
theorem c_inT {w : V} {xs : List V} (h1 : flatV w = true) (h2 : xs.all flatV = true) : CmpR G C .In O (dV w) (dTup G.K (xs.map dV)) (inV w xs) := cmp_of (fun X c => c.K ▸ op_in_seq) fun F H v u hh e1 h Q q => by
  obtain ⟨p, vs, rfl, hs, ha⟩ := h
  have ev := AllD.dV ha
  subst ev
  cases e1
  exact ⟨p, vs, rfl, .inr (gw_t hh.ex hs), h1, h2, q F H _ (Gw.refl F) hh rfl⟩
theorem c_ninT {w : V} {xs : List V} (h1 : flatV w = true) (h2 : xs.all flatV = true) : CmpR G C .NotIn O (dV w) (dTup G.K (xs.map dV)) (!inV w xs) := cmp_of (fun X c => c.K ▸ op_notIn_seq) fun F H v u hh e1 h Q q => by
  obtain ⟨p, vs, rfl, hs, ha⟩ := h
  have ev := AllD.dV ha
  subst ev
  cases e1
  exact ⟨p, vs, rfl, .inr (gw_t hh.ex hs), h1, h2, q F H _ (Gw.refl F) hh rfl⟩
theorem c_inSign {c : Nat} {z : Str} : CmpR G C .In O (dS ⟨#[c]⟩) (dS z) (decide (c ∈ z.cps.toList)) := cmp_of (fun _ _ => op_in_sign) fun F H v u hh e1 e2 Q q => ⟨c, z, e1.1, e2.1, q F H _ (Gw.refl F) hh rfl⟩
theorem c_ninSign {c : Nat} {z : Str} : CmpR G C .NotIn O (dS ⟨#[c]⟩) (dS z) (!decide (c ∈ z.cps.toList)) := cmp_of (fun _ _ => op_notIn_sign) fun F H v u hh e1 e2 Q q => ⟨c, z, e1.1, e2.1, q F H _ (Gw.refl F) hh rfl⟩
theorem c_isN {v : V} : CmpR G C .Is O (dV v) dN (decide (v = .non)) := cmp_of (fun _ _ => op_isN) fun F H x y hh e1 e2 Q q => by
  cases e1
  exact ⟨e2, q F H _ (Gw.refl F) hh rfl⟩
theorem c_notN {v : V} : CmpR G C .IsNot O (dV v) dN (!decide (v = .non)) := cmp_of (fun _ _ => op_notN) fun F H x y hh e1 e2 Q q => by
  cases e1
  exact ⟨e2, q F H _ (Gw.refl F) hh rfl⟩
theorem c_ltS {i j : Str} : CmpR G C .Lt O (dS i) (dS j) (decide (i.cps.toList < j.cps.toList)) := cmp_of (fun _ _ => op_lt_str) fun F H x y hh e1 e2 Q q => ⟨i, j, e1.1, e2.1, q F H _ (Gw.refl F) hh rfl⟩
theorem c_leS {i j : Str} : CmpR G C .LtE O (dS i) (dS j) (!decide (j.cps.toList < i.cps.toList)) := cmp_of (fun _ _ => op_le_str) fun F H x y hh e1 e2 Q q => ⟨i, j, e1.1, e2.1, q F H _ (Gw.refl F) hh rfl⟩
/-! ### calls of built-ins -/
theorem e_callB {id : String} (hc : CalR G C (.builtin id) O ds d) (g : Glo C x) (hm : G.mg x = none) (hv : bootBuiltins x = some (.builtin id)) (ha : A G C (e :: es) Γ O ds) (hs : ∀ env, starEach (e :: es) env = (false, eval e env) :: starEach es env) : E G C (.Call (.Name x p1) (e :: es) [] pos) Γ O d := .mk fun X c F σ H hh Q q => by
  obtain ⟨r, hr, hd⟩ := hc.ex X c
  refine we_of (pe_callB hr (c.gl g) (by rw [c.mg]; exact hm) hv pa_can g.2.2 g.2.1 (hs X.env) ?_) (ha.run X c F σ H hh _ fun F1 H1 vs e1 h1 d1 => hd F1 H1 vs h1.ho d1 _ fun F2 H2 z e2 h2 d2 => q F2 H2 z (e1.trans e2) (h1.mono e2 h2) d2)
  have a := ha.bt pos X.env
  rw [hs] at a
  unfold backTo at a ⊢
  rw [List.map_cons, List.any_cons] at a
  exact (Bool.or_eq_false_iff.mp a).2
theorem e_callT {T : String} (hc : CalR G C (.type T) O ds d) (g : Glo C x) (hm : G.mg x = none) (hv : bootBuiltins x = some (.type T)) (ha : A G C (e :: es) Γ O ds) (hs : ∀ env, starEach (e :: es) env = (false, eval e env) :: starEach es env) : E G C (.Call (.Name x p1) (e :: es) [] pos) Γ O d := .mk fun X c F σ H hh Q q => by
  obtain ⟨r, hr, hd⟩ := hc.ex X c
  refine we_of (pe_callTy hr (c.gl g) (by rw [c.mg]; exact hm) hv pa_can g.2.2 g.2.1 (hs X.env) ?_) (ha.run X c F σ H hh _ fun F1 H1 vs e1 h1 d1 => hd F1 H1 vs h1.ho d1 _ fun F2 H2 z e2 h2 d2 => q F2 H2 z (e1.trans e2) (h1.mono e2 h2) d2)
  have a := ha.bt pos X.env
  rw [hs] at a
  unfold backTo at a ⊢
  rw [List.map_cons, List.any_cons] at a
  exact (Bool.or_eq_false_iff.mp a).2
theorem en_callB {id : String} {od : OD} (hc : CalN G C (.builtin id) O ds od) (g : Glo C x) (hm : G.mg x = none) (hv : bootBuiltins x = some (.builtin id)) (ha : A G C (e :: es) Γ O ds) (hs : ∀ env, starEach (e :: es) env = (false, eval e env) :: starEach es env) : EN G C (.Call (.Name x p1) (e :: es) [] pos) Γ O od := .mk fun X c F σ H hh Q q => by
  obtain ⟨r, hr, hd⟩ := hc.ex X c
  refine we_of (pe_callB hr (c.gl g) (by rw [c.mg]; exact hm) hv pa_can g.2.2 g.2.1 (hs X.env) ?_) (ha.run X c F σ H hh _ fun F1 H1 vs e1 h1 d1 => hd F1 H1 vs h1.ho d1 _ fun F2 H2 z e2 h2 => q F2 H2 z (e1.trans e2) ⟨h1.fr.mono e2, h2⟩)
  have a := ha.bt pos X.env
  rw [hs] at a
  unfold backTo at a ⊢
  rw [List.map_cons, List.any_cons] at a
  exact (Bool.or_eq_false_iff.mp a).2
theorem en_callT {T : String} {od : OD} (hc : CalN G C (.type T) O ds od) (g : Glo C x) (hm : G.mg x = none) (hv : bootBuiltins x = some (.type T)) (ha : A G C (e :: es) Γ O ds) (hs : ∀ env, starEach (e :: es) env = (false, eval e env) :: starEach es env) : EN G C (.Call (.Name x p1) (e :: es) [] pos) Γ O od := .mk fun X c F σ H hh Q q => by
  obtain ⟨r, hr, hd⟩ := hc.ex X c
  refine we_of (pe_callTy hr (c.gl g) (by rw [c.mg]; exact hm) hv pa_can g.2.2 g.2.1 (hs X.env) ?_) (ha.run X c F σ H hh _ fun F1 H1 vs e1 h1 d1 => hd F1 H1 vs h1.ho d1 _ fun F2 H2 z e2 h2 => q F2 H2 z (e1.trans e2) ⟨h1.fr.mono e2, h2⟩)
  have a := ha.bt pos X.env
  rw [hs] at a
  unfold backTo at a ⊢
  rw [List.map_cons, List.any_cons] at a
  exact (Bool.or_eq_false_iff.mp a).2
theorem all1 {F : Hp} {vs : List V} (h : AllD F [d] vs) : ∃ v, vs = [v] ∧ d.ok F v := by
  match vs, h with
  | [v], h => exact ⟨v, rfl, h.1⟩
  | [], h => exact h.elim
  | _ :: _ :: _, h => exact h.2.elim
theorem all2 {F : Hp} {vs : List V} (h : AllD F [d, da] vs) : ∃ v u, vs = [v, u] ∧ d.ok F v ∧ da.ok F u := by
  match vs, h with
  | [v, u], h => exact ⟨v, u, rfl, h.1, h.2.1⟩
  | [], h => exact h.elim
  | [_], h => exact h.2.elim
  | _ :: _ :: _ :: _, h => exact h.2.2.elim
/-! #### len -/
theorem k_lenL : CalR G C (.builtin "len") O [dLst G.K ds] (dI ds.length) := ⟨fun X c => ⟨_, call_len_seq, fun F H vs hh h Q q => by
  obtain ⟨v, rfl, p, us, rfl, hs, ha⟩ := all1 h
  refine ⟨p, us, rfl, .inl (by rw [c.K]; exact gw_l hh.ex hs.sq), ?_⟩
  rw [AllD.length ha]
  exact q F H _ (Gw.refl F) hh rfl⟩⟩
theorem k_lenT : CalR G C (.builtin "len") O [dTup G.K ds] (dI ds.length) := ⟨fun X c => ⟨_, call_len_seq, fun F H vs hh h Q q => by
  obtain ⟨v, rfl, p, us, rfl, hs, ha⟩ := all1 h
  refine ⟨p, us, rfl, .inr (by rw [c.K]; exact gw_t hh.ex hs), ?_⟩
  rw [AllD.length ha]
  exact q F H _ (Gw.refl F) hh rfl⟩⟩
theorem k_lenO {k : Nat} {p : Addr} (hk : O[k]? = some (p, oLst ds)) : CalR G C (.builtin "len") O [dP p] (dI ds.length) := ⟨fun X c => ⟨_, call_len_seq, fun F H vs hh h Q q => by
  obtain ⟨v, rfl, hv⟩ := all1 h
  obtain ⟨_, o, hp, us, rfl, ha⟩ := hh.at hk
  refine ⟨p, us, by rw [show v = .ref p from hv], .inl (SqL.of hp), ?_⟩
  rw [AllD.length ha]
  exact q F H _ (Gw.refl F) hh rfl⟩⟩
theorem k_lenS {z : Str} : CalR G C (.builtin "len") O [dS z] (dI z.length) := ⟨fun X c => ⟨_, call_len_str, fun F H vs hh h Q q => by
  obtain ⟨v, rfl, hv⟩ := all1 h
  exact ⟨z, by rw [hv.1], hv.2.2, q F H _ (Gw.refl F) hh rfl⟩⟩⟩
/-! #### min, max, int, str -/
theorem k_max {i j : Int} : CalR G C (.builtin "max") O [dI i, dI j] (dI (if j > i then j else i)) := ⟨fun X c => ⟨_, call_max2 c.calm, fun F H vs hh h Q q => by
  obtain ⟨v, u, rfl, h1, h2⟩ := all2 h
  exact ⟨i, j, by rw [show v = .int i from h1, show u = .int j from h2], q F H _ (Gw.refl F) hh rfl⟩⟩⟩
theorem k_min {i j : Int} : CalR G C (.builtin "min") O [dI i, dI j] (dI (if j < i then j else i)) := ⟨fun X c => ⟨_, call_min2 c.calm, fun F H vs hh h Q q => by
  obtain ⟨v, u, rfl, h1, h2⟩ := all2 h
  exact ⟨i, j, by rw [show v = .int i from h1, show u = .int j from h2], q F H _ (Gw.refl F) hh rfl⟩⟩⟩
theorem k_intB {k : Bool} : CalR G C (.type "int") O [dB k] (dI (if k then 1 else 0)) := ⟨fun X c => ⟨_, call_int1, fun F H vs hh h Q q => by
  obtain ⟨v, rfl, h1⟩ := all1 h
  exact .inr ⟨k, by rw [show v = .bl k from h1], q F H _ (Gw.refl F) hh rfl⟩⟩⟩
theorem k_strI {i : Int} (hi : i.natAbs.log2 < 1920) (ho : okS (toString i)) : CalR G C (.type "str") O [dI i] (dS (toString i)) := ⟨fun X c => ⟨_, call_str_int, fun F H vs hh h Q q => by
  obtain ⟨v, rfl, h1⟩ := all1 h
  exact ⟨i, by rw [show v = .int i from h1], hi, q F H _ (Gw.refl F) hh ⟨rfl, ho⟩⟩⟩⟩
/-! #### list, tuple -/
theorem k_listL : CalN G C (.type "list") O [dLst G.K ds] (oLst ds) := ⟨fun X c => ⟨_, call_list_of, fun F H vs hh h Q q => by
  obtain ⟨v, rfl, p, us, rfl, hs, ha⟩ := all1 h
  exact ⟨p, us, rfl, .inl (by rw [c.K]; exact gw_l hh.ex hs.sq), fun l hl => q F _ l (Gw.refl F) (hh.own hl ⟨us, rfl, ha⟩)⟩⟩⟩
theorem k_listT : CalN G C (.type "list") O [dTup G.K ds] (oLst ds) := ⟨fun X c => ⟨_, call_list_of, fun F H vs hh h Q q => by
  obtain ⟨v, rfl, p, us, rfl, hs, ha⟩ := all1 h
  exact ⟨p, us, rfl, .inr (by rw [c.K]; exact gw_t hh.ex hs), fun l hl => q F _ l (Gw.refl F) (hh.own hl ⟨us, rfl, ha⟩)⟩⟩⟩
theorem k_listO {k : Nat} {p : Addr} (hk : O[k]? = some (p, oLst ds)) : CalN G C (.type "list") O [dP p] (oLst ds) := ⟨fun X c => ⟨_, call_list_of, fun F H vs hh h Q q => by
  obtain ⟨v, rfl, hv⟩ := all1 h
  obtain ⟨_, o, hp, us, rfl, ha⟩ := hh.at hk
  exact ⟨p, us, by rw [show v = .ref p from hv], .inl (SqL.of hp), fun l hl => q F _ l (Gw.refl F) (hh.own hl ⟨us, rfl, ha⟩)⟩⟩⟩
theorem k_tupL : CalR G C (.type "tuple") O [dLst G.K ds] (dTup G.K ds) := ⟨fun X c => ⟨_, call_tuple_of, fun F H vs hh h Q q => by
  obtain ⟨v, rfl, p, us, rfl, hs, ha⟩ := all1 h
  refine ⟨p, us, rfl, .inl ⟨by rw [c.K]; exact gw_l hh.ex hs.sq, fun l hl => ?_⟩⟩
  obtain ⟨h2, e2⟩ := hh.laid (o := .tup us) hl
  exact q _ _ _ e2 h2 ⟨l, us, rfl, .inl (.inl upd_same), AllD.mono e2 ha⟩⟩⟩
/-! #### isinstance -/
def IsTy (K : PySem.W.Frag) (d : D) (t : String) : Prop := ∀ F H v, Gw F H → d.ok F v → TyX K H v (.type t)
theorem ty_int {K : PySem.W.Frag} {i : Int} : IsTy K (dI i) "int" := fun F H v _ h => (show v = .int i from h) ▸ .base (.int i)
theorem ty_str {K : PySem.W.Frag} {i : Str} : IsTy K (dS i) "str" := fun F H v _ h => h.1 ▸ .base (.str i)
theorem ty_bool {K : PySem.W.Frag} {i : Bool} : IsTy K (dB i) "bool" := fun F H v _ h => (show v = .bl i from h) ▸ .base (.bl i)
theorem ty_none {K : PySem.W.Frag} : IsTy K dN "NoneType" := fun F H v _ h => (show v = .non from h) ▸ .base .non
theorem ty_lst {K : PySem.W.Frag} {ds : List D} : IsTy K (dLst K ds) "list" := fun F H v ex ⟨a, vs, h1, h2, h3⟩ => by
  subst h1
  rcases h2 with (h2 | ⟨o, h2⟩) | ⟨its, n, h2, _⟩
  · exact .base (.lst (ex _ _ h2))
  · exact .base (.frz (ex _ _ h2))
  · exact .kList h2 rfl
theorem ty_tup {K : PySem.W.Frag} {ds : List D} : IsTy K (dTup K ds) "tuple" := fun F H v ex ⟨a, vs, h1, h2, h3⟩ => by
  subst h1
  rcases h2 with (h2 | ⟨o, h2⟩) | ⟨o, its, n, h2, hc, _⟩
  · exact .base (.tup (ex _ _ h2))
  · exact .fTuple (ex _ _ h2)
  · exact .kTuple h2 hc
theorem k_isi {t n : String} {b : Bool} (ht : IsTy G.K d t) (hb : kitB t n = some b) : CalR G C (.builtin "isinstance") O [d, dV (.ty n)] (dB b) := ⟨fun X c => ⟨_, call_isi, fun F H vs hh h Q q => by
  obtain ⟨v, u, rfl, h1, h2⟩ := all2 h
  exact ⟨v, u, _, _, b, rfl, (show u = .ty n from h2) ▸ .ty n, by rw [c.K]; exact ht F H v hh.ex h1, kit_ty hb, q F H _ (Gw.refl F) hh rfl⟩⟩⟩
theorem e_tyname {n : String} (g : Glo C x) (hm : G.mg x = none) (hv : bootBuiltins x = some (.type n)) : E G C (.Name x pos) Γ O (dV (.ty n)) := .mk fun X c F σ H hh Q q =>
  we_of (pe_bltn (v := .ty n) (c.gl g) (by rw [c.mg]; exact hm) hv rfl g.2.2 g.2.1) (q F H _ (Gw.refl F) hh rfl)
end
end Kn

/-! Fw6: defs and their calls, comprehensions, lists of one's own. -/
namespace Kn
open PySem PySem.Spec L2

/-! ### defs -/
abbrev SpecD := List D → Own → RK → Prop
def spD (S : SpecD) : Sp := fun vs H Q _ => ∃ ds O rk F, S ds O rk ∧ HoldO F O H ∧ AllD F ds vs ∧ ∀ v H', rk.ok F v H' → Q v H'
structure Callee (G : Cfg) (k : Nat) (x : Str) (S : SpecD) : Prop where
  ex : ∃ (f : Addr) (fd : FuncData) (ps : List Str), FnOk G.P G.w G.K G.mg G.base CX0 k f fd ps (spD S) ∧ G.mg x = some (.ref f) ∧ PySem.W.keepIn G.K (.ref f) = true ∧ Binds G.K fd ps []
/-- what the body of a def hands back -/
def fnV (d : R → D) (O : Own) : Ek Empty R := ⟨fun e => e.elim, fun r => RK.val (d r) O, fun _ => XD.no⟩
def fnN (od : R → OD) (O : Own) : Ek Empty R := ⟨fun e => e.elim, fun r => RK.new (od r) O, fun _ => XD.no⟩
def frame0 (N : List Str) (ds : List D) : Fr := ds.map some ++ List.replicate (N.length - ds.length) none
theorem frame_start {F : Hp} {N : List Str} : ∀ {ds : List D} {vs : List V}, AllD F ds vs → FrOk F (frame0 N ds) (L2.start N vs) := fun {ds vs} h => by
  have hl := AllD.length h
  refine ⟨?_, fun i d e => ?_⟩
  · unfold frame0 L2.start
    rw [List.length_append, List.length_append, List.length_map, List.length_map, List.length_replicate, List.length_replicate, hl]
  · unfold frame0 at e
    by_cases hi : i < ds.length
    · rw [List.getElem?_append_left (by rw [List.length_map]; exact hi), List.getElem?_map] at e
      cases q : ds[i]? with
      | none => rw [q] at e; cases e
      | some d' =>
        rw [q] at e
        cases e
        obtain ⟨v, hv, dv⟩ := AllD.get h q
        refine ⟨v, ?_, dv⟩
        unfold L2.start
        rw [List.getElem?_append_left (by rw [List.length_map, hl]; exact hi), List.getElem?_map, hv]
        rfl
    · rw [List.getElem?_append_right (by rw [List.length_map]; omega), List.getElem?_replicate] at e
      split at e <;> cases e
theorem inC_of {CX : CXT} {P : Program} {w : World} {K : PySem.W.Frag} {mg : Str → Option Value} {base : Heap} {N : List Str} {qual : Str} {scope : Scope} {f : Addr} {cd : Value} {A : Around} {outer : List Env} {s : Shared} {H : Hp} {E : XK} {k : Nat}
    (hr : Room k (A.deeper (PyProof.Rows.envOfC qual scope s.heap.objs.size f cd))) : InC ⟨P, w, K, mg, base⟩ ⟨k, N, scope, true⟩ (cxOf CX P w K mg base N qual scope f cd A outer s H E) :=
  ⟨rfl, rfl, rfl, rfl, rfl, rfl, rfl, rfl, hr, passes_of rfl, fun _ _ => rfl⟩
theorem fn_ok {G : Cfg} {x qual : Str} {params : Arguments} {body : List Stmt} {scope : Scope} {f : Addr} {fd : FuncData} {N ps : List Str} {k : Nat} {S : SpecD} (F : FunD G.K x qual params body scope [] [] f fd) (sc : FnScope N ps scope)
    (len : ∀ ds O rk, S ds O rk → ds.length = ps.length)
    (hb : ∀ ds O rk, S ds O rk → ∃ (S1 R : Type) (ek : Ek S1 R) (r : R), SS G ⟨k, N, scope, true⟩ body (frame0 N ds) O ek (.rt r) ∧ ek.rs r = rk) : FnOk G.P G.w G.K G.mg G.base CX0 (k + 1) f fd ps (spD S) := by
  obtain ⟨P, w, K, mg, base⟩ := G
  refine F.ok sc (fun vs H Q E h => ?_) (fun cdv A outer s H vs Q E hr h => ?_)
  · obtain ⟨ds, O, rk, F0, hS, hO, ha, _⟩ := h
    rw [AllD.length ha]
    exact len ds O rk hS
  · obtain ⟨ds, O, rk, F0, hS, hO, ha, hq⟩ := h
    obtain ⟨S1, R, ek, r, hss, hrk⟩ := hb ds O rk hS
    refine ⟨_, pss_can, hss.run _ (inC_of hr) _ takes0 F0 _ H ⟨frame_start ha, hO⟩ _ ?_⟩
    intro v H' hv
    rw [hrk] at hv
    exact hq v H' hv
theorem callee_of {G : Cfg} {x : Str} {k : Nat} {S : SpecD} {f : Addr} {fd : FuncData} {ps : List Str} (F : FnOk G.P G.w G.K G.mg G.base CX0 k f fd ps (spD S)) (g : G.mg x = some (.ref f)) (kp : PySem.W.keepIn G.K (.ref f) = true) (b : Binds G.K fd ps []) : Callee G k x S := ⟨f, fd, ps, F, g, kp, b⟩
theorem Callee.imp {G : Cfg} {x : Str} {k : Nat} {S S' : SpecD} (c : Callee G k x S) (h : ∀ ds O rk, S' ds O rk → S ds O rk) : Callee G k x S' := by
  obtain ⟨f, fd, ps, F, g, kp, b⟩ := c.ex
  exact ⟨f, fd, ps, F.imp fun vs H Q E ⟨ds, O, rk, F0, q, r⟩ => ⟨ds, O, rk, F0, h _ _ _ q, r⟩, g, kp, b⟩

section
variable {G : Cfg} {C : Sc} {Γ : Fr} {O : Own} {e a b c : Expr} {es : List Expr} {d da db dc : D} {ds : List D} {od : OD} {pos p1 p2 p3 : Pos} {x : Str} {α β : Type} {S : SpecD} {k : Nat}
/-- a call of a def: whatever it hands back -/
theorem we_call {rk : RK} (cal : Callee G k x S) (hk : k ≤ C.k) (g : Glo C x) (hS : S ds O rk) (ha : A G C (e :: es) Γ O ds) (hs : ∀ env, starEach (e :: es) env = (false, eval e env) :: starEach es env) {X : Cx} (c : InC G C X) {F : Hp} {σ : L2.St} {H : Hp} (hh : Hold F Γ O σ H) {Q : VK} (q : ∀ F1 v H', Gw F F1 → FrOk F1 Γ σ → rk.ok F1 v H' → Q v H') : WE X (.Call (.Name x p1) (e :: es) [] pos) σ H Q := by
  obtain ⟨f, fd, ps, Fn, gx, kp, bi⟩ := cal.ex
  have Fn' : FnOk X.prog X.w X.K X.mg X.base CX0 k f fd ps (spD S) := by rw [c.p, c.w, c.K, c.mg, c.base]; exact Fn
  refine we_of (pe_call (dvs := []) (E := E0) Fn' (c.room.mono hk) (c.gl g) (by rw [c.mg]; exact gx) (by rw [c.K]; exact kp) (by rw [c.K]; exact bi) .nil pass0 pa_can g.2.1 (hs X.env) ?_) (ha.run X c F σ H hh _ fun F1 H1 vs e1 h1 d1 => ?_)
  · have a := ha.bt pos X.env
    rw [hs] at a
    unfold backTo at a ⊢
    rw [List.map_cons, List.any_cons] at a
    exact (Bool.or_eq_false_iff.mp a).2
  · rw [List.append_nil]
    exact ⟨ds, O, rk, F1, hS, h1.ho, d1, fun v H' hv => q F1 v H' e1 h1.fr hv⟩
theorem we_call0 {rk : RK} (cal : Callee G k x S) (hk : k ≤ C.k) (g : Glo C x) (hS : S [] O rk) {X : Cx} (c : InC G C X) {F : Hp} {σ : L2.St} {H : Hp} (hh : Hold F Γ O σ H) {Q : VK} (q : ∀ F1 v H', Gw F F1 → FrOk F1 Γ σ → rk.ok F1 v H' → Q v H') : WE X (.Call (.Name x p1) [] [] pos) σ H Q := by
  obtain ⟨f, fd, ps, Fn, gx, kp, bi⟩ := cal.ex
  have Fn' : FnOk X.prog X.w X.K X.mg X.base CX0 k f fd ps (spD S) := by rw [c.p, c.w, c.K, c.mg, c.base]; exact Fn
  refine we_of (pe_call0 (dvs := []) (E := E0) Fn' (c.room.mono hk) (c.gl g) (by rw [c.mg]; exact gx) (by rw [c.K]; exact kp) (by rw [c.K]; exact bi) .nil pass0 g.2.1) ?_
  exact ⟨[], O, rk, F, hS, hh.ho, trivial, fun v H' hv => q F v H' (Gw.refl F) hh.fr hv⟩
theorem e_call (cal : Callee G k x S) (hk : k ≤ C.k) (g : Glo C x) (hS : S ds O (RK.val d O)) (ha : A G C (e :: es) Γ O ds) (hs : ∀ env, starEach (e :: es) env = (false, eval e env) :: starEach es env) : E G C (.Call (.Name x p1) (e :: es) [] pos) Γ O d := .mk fun X c F σ H hh Q q =>
  we_call cal hk g hS ha hs c hh fun F1 v H' e1 fr ⟨F2, e2, h2, d2⟩ => q F2 H' v (e1.trans e2) ⟨fr.mono e2, h2⟩ d2
theorem e_call0 (cal : Callee G k x S) (hk : k ≤ C.k) (g : Glo C x) (hS : S [] O (RK.val d O)) : E G C (.Call (.Name x p1) [] [] pos) Γ O d := .mk fun X c F σ H hh Q q =>
  we_call0 cal hk g hS c hh fun F1 v H' e1 fr ⟨F2, e2, h2, d2⟩ => q F2 H' v (e1.trans e2) ⟨fr.mono e2, h2⟩ d2
theorem en_call (cal : Callee G k x S) (hk : k ≤ C.k) (g : Glo C x) (hS : S ds O (RK.new od O)) (ha : A G C (e :: es) Γ O ds) (hs : ∀ env, starEach (e :: es) env = (false, eval e env) :: starEach es env) : EN G C (.Call (.Name x p1) (e :: es) [] pos) Γ O od := .mk fun X c F σ H hh Q q =>
  we_call cal hk g hS ha hs c hh fun F1 v H' e1 fr ⟨F2, p, e2, hv, h2⟩ => by subst hv; exact q F2 H' p (e1.trans e2) ⟨fr.mono e2, h2⟩
theorem en_call0 (cal : Callee G k x S) (hk : k ≤ C.k) (g : Glo C x) (hS : S [] O (RK.new od O)) : EN G C (.Call (.Name x p1) [] [] pos) Γ O od := .mk fun X c F σ H hh Q q =>
  we_call0 cal hk g hS c hh fun F1 v H' e1 fr ⟨F2, p, e2, hv, h2⟩ => by subst hv; exact q F2 H' p (e1.trans e2) ⟨fr.mono e2, h2⟩

/-! ### comprehensions -/
def wipeF (Γ : Fr) : List Nat → Fr
  | [] => Γ
  | v :: vs => (wipeF Γ vs).set v none
theorem wipe_fr {F : Hp} {σ : L2.St} (h : FrOk F Γ σ) : ∀ vs : List Nat, FrOk F (wipeF Γ vs) (wipe σ vs)
  | [] => h
  | v :: vs => by
    obtain ⟨h1, h2⟩ := wipe_fr h vs
    refine ⟨by unfold wipeF wipe; rw [List.length_set, List.length_set]; exact h1, fun i d e => ?_⟩
    unfold wipeF at e
    unfold wipe
    by_cases hi : v = i
    · subst hi
      by_cases hv : v < (wipeF Γ vs).length
      · rw [List.getElem?_set_self hv] at e; cases e
      · rw [List.getElem?_eq_none (by rw [List.length_set]; omega)] at e; cases e
    · rw [List.getElem?_set_ne hi] at e ⊢
      exact h2 i d e
theorem wipe_at : ∀ (σ : L2.St) (vs : List Nat) (j : Nat), (wipe σ vs)[j]? = if j ∈ vs then (σ[j]?).map (fun _ => none) else σ[j]?
  | σ, [], j => by rw [if_neg (by simp)]; rfl
  | σ, v :: vs, j => by
    unfold wipe
    have ih := wipe_at σ vs j
    by_cases hv : v = j
    · subst hv
      rw [if_pos List.mem_cons_self]
      by_cases hl : v < (wipe σ vs).length
      · rw [List.getElem?_set_self hl]
        rw [wipe_length] at hl
        rw [List.getElem?_eq_getElem hl]
        rfl
      · rw [List.getElem?_eq_none (by rw [List.length_set]; omega)]
        rw [wipe_length] at hl
        rw [List.getElem?_eq_none (by omega)]
        rfl
    · rw [List.getElem?_set_ne hv, ih]
      by_cases hm : j ∈ vs
      · rw [if_pos hm, if_pos (List.mem_cons_of_mem _ hm)]
      · rw [if_neg hm, if_neg (fun z => (List.mem_cons.mp z).elim (fun e => hv e.symm) hm)]
theorem But.wipe {is vs : List Nat} {σ σ' : L2.St} (b : But is (wipe σ vs) σ') (h : ∀ i ∈ is, i ∈ vs) : L2.wipe σ' vs = L2.wipe σ vs := by
  refine List.ext_getElem? fun j => ?_
  have hl : σ'.length = σ.length := by rw [b.1, wipe_length]
  rw [wipe_at, wipe_at]
  by_cases hj : j ∈ vs
  · rw [if_pos hj, if_pos hj]
    by_cases hlt : j < σ.length
    · rw [List.getElem?_eq_getElem hlt, List.getElem?_eq_getElem (by omega)]
      rfl
    · rw [List.getElem?_eq_none (by omega), List.getElem?_eq_none (by omega)]
  · rw [if_neg hj, if_neg hj, b.2 j fun z => hj (h j z), wipe_at, if_neg hj]
/-- the context of a comprehension's block -/
abbrev Sc.blk (C : Sc) (scope : Scope) : Sc := ⟨C.k, C.N, relS scope C.sc, false⟩
theorem InC.blk {X : Cx} (c : InC G C X) (s : Shared) (H : Hp) (scope : Scope) (cl : List (Str × Addr)) (A : Addr) (fp : List Addr) : InC G (C.blk scope) (X.blk s H scope (compEnvC scope cl A X.env) fp) :=
  ⟨c.p, c.w, c.K, c.mg, c.base, c.n, (by show relS scope X.env.scope = relS scope C.sc; rw [c.sc]), c.calm, c.room, PassesOwn.never, fun h => by cases h⟩
/-- a clause's tests -/
structure TsJ (G : Cfg) (C : Sc) (ifs : List Expr) (Γ : Fr) (O : Own) (b : Bool) : Prop where
  run : ∀ X, InC G C X → ∀ (F : Hp) (σ : L2.St) (H : Hp), Hold F Γ O σ H → ∀ Q : Bool → Hp → Prop, (∀ F' H', Gw F F' → Hold F' Γ O σ H' → Q b H') → ∀ (pins : List (Addr × Obj)) (s : Shared), Inv X pins σ H s →
  wpAny (model X.prog X.w) X.A (forIn ifs true fun c r =>
    if r = true then do
      let ok ← isTrue c X.env (eval c X.env)
      pure (ForInStep.yield ok)
    else pure (ForInStep.yield r)) (TP X pins σ Q) X.xe s
def WTs (X : Cx) (ifs : List Expr) : TT := fun σ H Q => ∀ (pins : List (Addr × Obj)) (s : Shared), Inv X pins σ H s →
  wpAny (model X.prog X.w) X.A (forIn ifs true fun c r =>
    if r = true then do
      let ok ← isTrue c X.env (eval c X.env)
      pure (ForInStep.yield ok)
    else pure (ForInStep.yield r)) (TP X pins σ Q) X.xe s
theorem pts_can {X : Cx} {ifs : List Expr} : PTs X ifs (WTs X ifs) := ⟨fun pins s _ _ _ I h => h pins s I⟩
theorem ts_nil : TsJ G C [] Γ O true := .mk fun X c F σ H hh Q q pins s I => pts_nil.run pins s σ H Q I (q F H (Gw.refl F) hh)
theorem ts_one {k : Bool} (h : T G C c Γ O k) : TsJ G C [c] Γ O k := .mk fun X cc F σ H hh Q q pins s I => (pts_one pt_can).run pins s σ H Q I (h.run X cc F σ H hh Q q)
/-- within a block the readings can't hang on the block: what holds of every block -/
def BE (X : Cx) (scope : Scope) (e : Expr) : TE := fun σ H Q => ∀ (s : Shared) (H0 : Hp) (A : Addr) (cl : List (Str × Addr)) (fp : List Addr), WE (X.blk s H0 scope (compEnvC scope cl A X.env) fp) e σ H Q
def BT (X : Cx) (scope : Scope) (ifs : List Expr) : TT := fun σ H Q => ∀ (s : Shared) (H0 : Hp) (A : Addr) (cl : List (Str × Addr)) (fp : List Addr), WTs (X.blk s H0 scope (compEnvC scope cl A X.env) fp) ifs σ H Q
def BG (X : Cx) (scope : Scope) (tg : Expr) : TG := fun v σ H Q => ∀ (s : Shared) (H0 : Hp) (A : Addr) (cl : List (Str × Addr)) (fp : List Addr), WG (X.blk s H0 scope (compEnvC scope cl A X.env) fp) tg v σ H Q
/-- [elt for target in iter if ..] -/
theorem en_lcG {df : α → D} {dg : β → D} {xs : List α} {pf : α → Bool} {g : α → β} {tg it elt : Expr} {ifs : List Expr} {scope : Scope} {own : List (Str × Nat)} {is : List Nat} {Γ2 : α → Fr} {P : Own → Prop} (nd : C.N.Nodup) (hi : EI G C tg it Γ O P (xs.map df)) (hP : ∀ q ac, P ((q, oLst ac) :: O)) (ok : BlkOk C.N C.sc scope own)
    (hg : ∀ x, TJ G (C.blk scope) tg (df x) (wipeF Γ (own.map (·.2))) (Γ2 x) is) (his : ∀ i ∈ is, i ∈ own.map (·.2)) (ht : ∀ x, x ∈ xs → ∀ q ac, TsJ G (C.blk scope) ifs (Γ2 x) ((q, oLst ac) :: O) (pf x))
    (he : ∀ x, x ∈ xs → pf x = true → ∀ q ac, E G (C.blk scope) elt (Γ2 x) ((q, oLst ac) :: O) (dg (g x))) (hl : xs.length < 16000000) (hs : ∀ env x, foldedSetIterable it env x = pure x) : EN G C (.ListComp elt [⟨tg, it, ifs, 0⟩] scope pos) Γ O (oLst (((xs.filter pf).map g).map dg)) := .mk fun X c F σ H hh Q q => by
  refine we_of (pe_lc (g := BG X scope tg) (tt := BT X scope ifs) (te := BE X scope elt) c.calm (by rw [c.n]; exact nd) pi_can (by rw [c.n, c.sc]; exact ok) (fun s H0 A cl fp => ⟨fun pins s1 σ1 H1 v u Q1 I r h => h s H0 A cl fp pins s1 u I r⟩) (fun s H0 A cl fp => ⟨fun pins s1 σ1 H1 Q1 I h => h s H0 A cl fp pins s1 I⟩)
    (fun s H0 A cl fp => ⟨fun pins s1 σ1 H1 Q1 I h => h s H0 A cl fp pins s1 I⟩) (hs X.env)) ?_
  refine hi.run X c F σ H hh _ fun J F1 H1 e1 h1 fd => ?_
  intro Dl hD
  refine ⟨fun i mm H' => ∃ F', mm = xs.length - i ∧ i ≤ xs.length ∧ Gw F1 F' ∧ HoldO F' ((Dl, oLst ((((xs.take i).filter pf).map g).map dg)) :: O) H', ⟨xs.length, F1, rfl, Nat.zero_le _, Gw.refl _, h1.ho.own hD ⟨[], rfl, trivial⟩⟩, ?_⟩
  rintro i mm H' ⟨F', rfl, hil, e2, h2⟩
  by_cases hlt : i < xs.length
  · have hd : (xs.map df)[i]? = some (df xs[i]) := by rw [List.getElem?_map, List.getElem?_eq_getElem hlt]; rfl
    have hmem : xs[i] ∈ xs := List.getElem_mem hlt
    have itm := fd.item i _ hd F' _ H' (hP _ _) e2 h2
    have htake : xs.take (i + 1) = xs.take i ++ [xs[i]] := List.take_succ_eq_append_getElem hlt
    refine .inr ⟨itm.1, fun H3 => ∃ F3, Gw F1 F3 ∧ HoldO F3 ((Dl, oLst ((((xs.take (i + 1)).filter pf).map g).map dg)) :: O) H3, fun H3 ⟨F3, x3, h3⟩ => ⟨xs.length - (i + 1), by omega, F3, rfl, hlt, x3, h3⟩, fun x H3 hy => ?_⟩
    obtain ⟨F3, e3, h3, d3⟩ := itm.2 x H3 hy
    have fr3 : FrOk F3 (wipeF Γ (own.map (·.2))) (wipe σ (own.map (·.2))) := wipe_fr (h1.fr.mono (e2.trans e3)) _
    intro s H0 A cl fp
    refine (hg xs[i]).run _ (c.blk s H0 scope cl A fp) F3 _ _ H3 x ⟨fr3, h3⟩ d3 _ fun σ4 h4 b4 => ?_
    refine ⟨b4.wipe his, fun s' H0' A' cl' fp' => ?_⟩
    refine (ht xs[i] hmem _ _).run _ (c.blk s' H0' scope cl' A' fp') F3 σ4 H3 h4 _ fun F5 H5 e5 h5 => ?_
    cases hp : pf xs[i] with
    | false =>
      refine iteF ⟨F5, ((e2.trans e3).trans e5), ?_⟩
      have ea : (xs.take (i + 1)).filter pf = (xs.take i).filter pf := by rw [htake, List.filter_append, List.filter_cons, hp]; simp
      rw [ea]
      exact h5.ho
    | true =>
      refine iteT fun s6 H06 A6 cl6 fp6 => ?_
      refine (he xs[i] hmem hp _ _).run _ (c.blk s6 H06 scope cl6 A6 fp6) F5 σ4 H5 h5 _ fun F6 H6 v e6 h6 d6 => ?_
      obtain ⟨_, o, hq, vs, rfl, ha⟩ := h6.ho.at (k := 0) rfl
      refine ⟨vs, hq, ?_, F6, (((e2.trans e3).trans e5).trans e6), ?_⟩
      · rw [AllD.length ha, List.length_map, List.length_map]
        have l1 := List.length_filter_le pf (xs.take i)
        rw [List.length_take] at l1
        have : (sizeLine : Nat) = 16777216 := by rw [sizeLine_eq]
        omega
      · have ea : (xs.take (i + 1)).filter pf = (xs.take i).filter pf ++ [xs[i]] := by rw [htake, List.filter_append, List.filter_cons, hp]; rfl
        rw [ea, List.map_append, List.map_append]
        exact h6.ho.write (k := 0) rfl ⟨_, rfl, AllD.append ha ⟨d6, trivial⟩⟩
  · have hi' : i = xs.length := by omega
    subst hi'
    have a := fd.stop F' _ H' (hP _ _) e2 h2
    rw [List.length_map] at a
    refine .inl ⟨a, ?_⟩
    rw [List.take_length] at h2
    exact q F' H' Dl (e1.trans e2) ⟨h1.fr.mono e2, h2⟩
/-- without a test -/
theorem en_lc {df : α → D} {dg : β → D} {xs : List α} {g : α → β} {tg it elt : Expr} {scope : Scope} {own : List (Str × Nat)} {is : List Nat} {Γ2 : α → Fr} {P : Own → Prop} (nd : C.N.Nodup) (hi : EI G C tg it Γ O P (xs.map df)) (hP : ∀ q ac, P ((q, oLst ac) :: O)) (ok : BlkOk C.N C.sc scope own)
    (hg : ∀ x, TJ G (C.blk scope) tg (df x) (wipeF Γ (own.map (·.2))) (Γ2 x) is) (his : ∀ i ∈ is, i ∈ own.map (·.2))
    (he : ∀ x, x ∈ xs → ∀ q ac, E G (C.blk scope) elt (Γ2 x) ((q, oLst ac) :: O) (dg (g x))) (hl : xs.length < 16000000) (hs : ∀ env x, foldedSetIterable it env x = pure x) : EN G C (.ListComp elt [⟨tg, it, [], 0⟩] scope pos) Γ O (oLst ((xs.map g).map dg)) := by
  have a := en_lcG (G := G) (pos := pos) (pf := fun _ => true) nd hi hP ok hg his (fun x hx q ac => ts_nil) (fun x hx _ => he x hx) hl hs
  rw [List.filter_eq_self.mpr (fun _ _ => rfl)] at a
  exact a
end

section
variable {G : Cfg} {C : Sc} {Γ : Fr} {O : Own} {S1 R B : Type} {k : Ek S1 R} {o : Out S1 R} {e a b : Expr} {d : D} {ds : List D} {ss : List Stmt} {pos p1 p2 p3 p4 : Pos} {x : Str} {α : Type} {f : α → D} {p : Addr} {n : Nat}
/-! ### lists of one's own change -/
/-- xs.append(e) -/
theorem ss_app {xs : List α} {y : α} {g : List α → B} (ι : B → Out S1 R) (hk : O[n]? = some (p, oLst (xs.map f))) (ha : E G C a Γ O (dP p)) (h : E G C e Γ O (f y)) (hz : xs.length < 16000000) (hb : ∀ env, attributeBase a "append" env (eval a env) = eval a env) (hl : (p1.endLine == p2.line) = true) (hs : ∀ env, starEach [e] env = (false, eval e env) :: starEach [] env)
    (hr : ∀ ys, ys = xs ++ [y] → SS G C ss Γ (O.set n (p, oLst (ys.map f))) k (ι (g ys))) : SS G C (.Expr (.Call (.Attribute a "append" p1) [e] [] p2) pos :: ss) Γ O k (ι (lt (xs ++ [y]) g)) :=
  ss_cons (t := fun X => tDrop (tBM X.K "list" rAppend (WE X a) (tCons (WE X e) tNil))) (fun X c => ps_expr (pe_bm PySem.F.plainAttrs_list PySem.F.slot_list_append PySem.F.type_list_append mt_append pe_can (pa_cons pe_can pa_nil (hs X.env)) (hb X.env) (by rw [hs]; rfl) hl (hs X.env) rfl))
    fun X c W tk F σ H hh D m => by
      refine ha.run X c F σ H hh _ fun F1 H1 v e1 h1 d1 => ?_
      have d1' : v = .ref p := d1
      subst d1'
      obtain ⟨_, o, hp, vs, rfl, _⟩ := h1.ho.at hk
      refine ⟨.inl ⟨rfl, vs, SqL.of hp⟩, h.run X c F1 σ H1 h1 _ fun F2 H2 u e2 h2 d2 => ?_⟩
      obtain ⟨_, o2, hp2, us, rfl, hal⟩ := h2.ho.at hk
      refine ⟨p, us, u, rfl, rfl, hp2, ?_, ?_⟩
      · rw [AllD.length hal, List.length_map]
        have : (sizeLine : Nat) = 16777216 := by rw [sizeLine_eq]
        omega
      · refine (hr _ rfl).run X c W tk F2 σ _ ⟨h2.fr, h2.ho.write hk ⟨_, rfl, ?_⟩⟩ D (meet.mono (e1.trans e2) m)
        rw [List.map_append]
        exact AllD.append hal ⟨d2, trivial⟩
/-- xs[i] = e -/
theorem ss_setL {xs : List α} {y : α} {i : Int} {g : List α → B} (ι : B → Out S1 R) (hk : O[n]? = some (p, oLst (xs.map f))) (ha : E G C a Γ O (dP p)) (hb : E G C b Γ O (dI i)) (h : E G C e Γ O (f y)) (h0 : 0 ≤ i ∧ i < xs.length)
    (hss : ∀ (env : Env), swapsWithSole [.Subscript a b p1] e pos.line env = pure false) (hw : ∀ env, swappedStores [.Subscript a b p1] e env = pure none)
    (hset : ∀ (env : Env) v, assign (.Subscript a b p1) env v = (do
      let ov ← holding [v] (eval a env)
      let iv ← holding [v, ov] (eval b env)
      standAt p1
      holding [v, ov, iv] (setItem ov iv v)
      release [v, ov, iv] []))
    (hr : ∀ ys, ys = xs.set i.toNat y → SS G C ss Γ (O.set n (p, oLst (ys.map f))) k (ι (g ys))) : SS G C (.Assign [.Subscript a b p1] e pos :: ss) Γ O k (ι (lt (xs.set i.toNat y) g)) :=
  ss_cons (t := fun X => tAsg (WE X e) (gSub (WE X a) (WE X b) rSetL)) (fun X c => ps_asg pe_can (pg_sub pe_can pe_can set_list (hset X.env)) (hss X.env) (hw X.env)) fun X c W tk F σ H hh D m => by
    refine h.run X c F σ H hh _ fun F1 H1 u e1 h1 d1 => ?_
    refine ha.run X c F1 σ H1 h1 _ fun F2 H2 v e2 h2 d2 => ?_
    refine hb.run X c F2 σ H2 h2 _ fun F3 H3 w e3 h3 d3 => ?_
    obtain ⟨_, o, hp, vs, rfl, hal⟩ := h3.ho.at hk
    have d2' : v = .ref p := d2
    have d3' : w = .int i := d3
    subst d2' d3'
    have hlen := AllD.length hal
    rw [List.length_map] at hlen
    refine ⟨p, vs, i, i.toNat, rfl, rfl, hp, ?_, ?_⟩
    · unfold ixN
      rw [if_pos h0.1, if_pos (by rw [hlen]; exact h0.2)]
    · refine (hr _ rfl).run X c W tk F3 σ _ ⟨h3.fr, h3.ho.write hk ⟨_, rfl, ?_⟩⟩ D (meet.mono ((e1.trans e2).trans e3) m)
      rw [List.map_set]
      exact AllD.set ((f y).mono (e2.trans e3) d1) _ hal
/-- the k-th object of one's own stays as it is from now on; only the newest one -/
theorem ss_freeze {i : Nat} (hi : Γ[i]? = some (some (dP p))) (h : SS G C ss (Γ.set i (some (dLst G.K ds))) O k o) : SS G C ss Γ ((p, oLst ds) :: O) k o := .mk fun X c W tk F σ H hh D m => by
  obtain ⟨F', e, h2, d2⟩ := freeze_lst (G := G) hh.ho
  obtain ⟨v, hv, hd⟩ := hh.fr.2 i _ hi
  refine h.run X c W tk F' σ H ⟨?_, h2⟩ D (meet.mono e m)
  have hd' : v = .ref p := hd
  subst hd'
  have a := (hh.fr.mono e).set i d2
  have es : σ.set i (some (.ref p)) = σ := by
    refine List.ext_getElem? fun j => ?_
    by_cases hj : i = j
    · subst hj
      rw [List.getElem?_set_self (List.getElem?_eq_some_iff.mp hv).1, hv]
    · rw [List.getElem?_set_ne hj]
  rw [es] at a
  exact a
end
end Kn

/-! Fw7: typed descriptions and what goes with them. -/
namespace Kn
open PySem PySem.Spec L2

section
variable {α β γ δ : Type}
abbrev dLo (K : PySem.W.Frag) (f : α → D) (l : List α) : D := dLst K (l.map f)
abbrev dVt (K : PySem.W.Frag) (f : α → D) (l : List α) : D := dTup K (l.map f)
abbrev dT2 (K : PySem.W.Frag) (f : α → D) (g : β → D) (p : α × β) : D := dTup K [f p.1, g p.2]
abbrev dT3 (K : PySem.W.Frag) (f : α → D) (g : β → D) (h : γ → D) (p : α × β × γ) : D := dTup K [f p.1, g p.2.1, h p.2.2]
abbrev dT4 (K : PySem.W.Frag) (f : α → D) (g : β → D) (h : γ → D) (i : δ → D) (p : α × β × γ × δ) : D := dTup K [f p.1, g p.2.1, h p.2.2.1, i p.2.2.2]
abbrev dU (_ : Unit) : D := dN
end
/-- a def of the text -/
structure Def (G : Cfg) (x : Str) (st : Stmt) : Prop where
  ex : ∃ (f : Addr) (fd : FuncData), FunD G.K x x (defArgs st) (defBody st) (defScope st) [] [] f fd ∧ G.mg x = some (.ref f)
theorem Def.callee {G : Cfg} {x : Str} {st : Stmt} (d : Def G x st) {N ps : List Str} {k : Nat} {S : SpecD} (sc : FnScope N ps (defScope st)) (len : ∀ ds O rk, S ds O rk → ds.length = ps.length)
    (hbind : ∀ (kV doc pm : Value) (an : Option Addr) (cdv ct : Value) (us : List Value), us.length = ps.length → bindArgs (PySem.W.fnOf x x (defArgs st) (defBody st) (defScope st) .none kV doc pm an cdv ct) ⟨us, []⟩ = pure (ps.zip us))
    (hb : ∀ ds O rk, S ds O rk → ∃ (S1 R : Type) (ek : Ek S1 R) (r : R), SS G ⟨k, N, defScope st, true⟩ (defBody st) (frame0 N ds) O ek (.rt r) ∧ ek.rs r = rk) : Callee G (k + 1) x S := by
  obtain ⟨f, fd, F, g⟩ := d.ex
  exact callee_of (fn_ok F sc len hb) g F.kp (F.bindsN hbind)
theorem scope_of {N ps : List Str} {sc : Scope} (h1 : sc.kind = .function) (h2 : sc.isCoroutine = false) (h3 : sc.isGenerator = false) (h : (decide N.Nodup && decide (N.take ps.length = ps) && ps.all (fun x => match sc.names.lookup x with
  | some .local => true
  | some .cell => true
  | _ => false) && sc.names.all fun y => match y.2 with
  | .free => false
  | _ => true) = true) : FnScope N ps sc := by
  simp only [Bool.and_eq_true, decide_eq_true_eq, List.all_eq_true] at h
  obtain ⟨⟨⟨a, b⟩, c⟩, d⟩ := h
  refine ⟨h1, h2, h3, a, b, fun x hx => ?_, fun y hy e => ?_⟩
  · have q := c x hx
    revert q
    cases sc.names.lookup x with
    | none => intro h; cases h
    | some k => cases k <;> intro h <;> first | exact .inl rfl | exact .inr rfl | cases h
  · have q := d y hy
    rw [e] at q
    cases q

section
variable {G : Cfg} {C : Sc} {Γ : Fr} {O : Own} {S1 R B : Type} {k : Ek S1 R} {o : Out S1 R} {e a b c : Expr} {es : List Expr} {d da db : D} {ds : List D} {ss : List Stmt} {pos p1 p2 p3 : Pos} {x : Str} {α : Type} {f : α → D}
/-! ### arithmetic with plain bounds -/
theorem e_powC {i j : Int} (r : Int) (ha : E G C a Γ O (dI i)) (hb : E G C b Γ O (dI j)) (hm : (decide (0 ≤ j) && decide (j ≤ 1000000) && decide (i.natAbs < 2 ^ 64) && decide (i ^ j.toNat = r)) = true) : E G C (.BinOp a .Pow b pos) Γ O (dI r) := by
  simp only [Bool.and_eq_true, decide_eq_true_eq] at hm
  obtain ⟨⟨⟨h1, h2⟩, h3⟩, h4⟩ := hm
  exact e_eq (e_pow ha hb ⟨h1, h2, h3⟩) (by rw [h4])
theorem e_divS {i j : Int} (ha : E G C a Γ O (dI i)) (hb : E G C b Γ O (dI j)) (h1 : 0 < j ∧ j < 1073741824) : E G C (.BinOp a .FloorDiv b pos) Γ O (dI (i / j)) := e_div ha hb h1
theorem e_divB {i j : Int} (ha : E G C a Γ O (dI i)) (hb : E G C b Γ O (dI j)) (h1 : 0 < j) (h2 : decide (j.natAbs.log2 < 9000) = true) : E G C (.BinOp a .FloorDiv b pos) Γ O (dI (i / j)) := e_divW ha hb ⟨h1, of_decide_eq_true h2⟩
theorem e_mulL {i j : Int} (ha : E G C a Γ O (dI i)) (hb : E G C b Γ O (dI j)) (h : -18446744073709551616 < i ∧ i < 18446744073709551616) : E G C (.BinOp a .Mult b pos) Γ O (dI (i * j)) := e_mul ha hb (.inl ⟨by have := h.1; omega, by have := h.2; omega⟩)
theorem e_mulR {i j : Int} (ha : E G C a Γ O (dI i)) (hb : E G C b Γ O (dI j)) (h : -18446744073709551616 < j ∧ j < 18446744073709551616) : E G C (.BinOp a .Mult b pos) Γ O (dI (i * j)) := e_mul ha hb (.inr ⟨by have := h.1; omega, by have := h.2; omega⟩)
theorem mem_upto {n i : Int} (h : i ∈ upto n) : 0 ≤ i ∧ i < n := by
  unfold upto at h
  obtain ⟨j, hj, rfl⟩ := List.mem_map.mp h
  have := List.mem_range.mp hj
  omega
theorem mem_range2 {m n i : Int} (h : i ∈ range2 m n) : m ≤ i ∧ i < n := by
  unfold range2 at h
  obtain ⟨j, hj, rfl⟩ := List.mem_map.mp h
  have := List.mem_range.mp hj
  omega
theorem upto_len {n : Int} : (upto n).length = n.toNat := by unfold upto; rw [List.length_map, List.length_range]
theorem range2_len {m n : Int} : (range2 m n).length = (n - m).toNat := by unfold range2; rw [List.length_map, List.length_range]
theorem inR_mod {n : Nat} {i : Int} (h : 0 < n) : inR n (i % (n : Int)) := by
  have h1 := Int.emod_nonneg i (b := (n : Int)) (by omega)
  have h2 := Int.emod_lt_of_pos i (b := (n : Int)) (by omega)
  exact ⟨by omega, h2⟩
theorem inR_of {n : Nat} {i : Int} (h : -(n : Int) ≤ i ∧ i < n) : inR n i := h
/-! ### in a list, a tuple of texts, of numbers -/
theorem inV_str {s : Str} : ∀ {l : List Str}, inV (.str s) (l.map V.str) = decide (s ∈ l)
  | [] => rfl
  | a :: l => by
    have ih := inV_str (s := s) (l := l)
    unfold inV at ih ⊢
    rw [List.map_cons, List.any_cons, ih]
    show ((a == s) || decide (s ∈ l)) = decide (s ∈ a :: l)
    by_cases h : s = a
    · rw [h]; simp
    · have h1 : (a == s) = false := beq_eq_false_iff_ne.mpr fun z => h z.symm
      rw [h1, Bool.false_or]
      exact dec_iff ⟨fun z => List.mem_cons_of_mem _ z, fun z => (List.mem_cons.mp z).elim (fun e => absurd e h) id⟩
theorem inV_int {s : Int} : ∀ {l : List Int}, inV (.int s) (l.map V.int) = decide (s ∈ l)
  | [] => rfl
  | a :: l => by
    have ih := inV_int (s := s) (l := l)
    unfold inV at ih ⊢
    rw [List.map_cons, List.any_cons, ih]
    show ((a == s) || decide (s ∈ l)) = decide (s ∈ a :: l)
    by_cases h : s = a
    · rw [h]; simp
    · have h1 : (a == s) = false := beq_eq_false_iff_ne.mpr fun z => h z.symm
      rw [h1, Bool.false_or]
      exact dec_iff ⟨fun z => List.mem_cons_of_mem _ z, fun z => (List.mem_cons.mp z).elim (fun e => absurd e h) id⟩
theorem flat_str (l : List Str) : (l.map V.str).all flatV = true := by
  rw [List.all_eq_true]
  intro x hx
  obtain ⟨y, _, rfl⟩ := List.mem_map.mp hx
  rfl
theorem flat_int (l : List Int) : (l.map V.int).all flatV = true := by
  rw [List.all_eq_true]
  intro x hx
  obtain ⟨y, _, rfl⟩ := List.mem_map.mp hx
  rfl
theorem subL {K : PySem.W.Frag} {l : List Str} (F : Hp) (v : V) (h : (dLst K (l.map dS)).ok F v) : (dLst K ((l.map V.str).map dV)).ok F v := by
  obtain ⟨a, vs, h1, h2, h3⟩ := h
  refine ⟨a, vs, h1, h2, ?_⟩
  rw [(AllD.dS h3).1]
  exact allD_dV _
theorem subT {K : PySem.W.Frag} {l : List Str} (F : Hp) (v : V) (h : (dTup K (l.map dS)).ok F v) : (dTup K ((l.map V.str).map dV)).ok F v := by
  obtain ⟨a, vs, h1, h2, h3⟩ := h
  refine ⟨a, vs, h1, h2, ?_⟩
  rw [(AllD.dS h3).1]
  exact allD_dV _
theorem map_dI (l : List Int) : l.map dI = (l.map V.int).map dV := by rw [List.map_map]; rfl
theorem c_inLS {s : Str} {l : List Str} : CmpR G C .In O (dS s) (dLst G.K (l.map dS)) (decide (s ∈ l)) := by rw [← inV_str]; exact c_weak (c_inS rfl (flat_str l)) (fun _ _ h => h.1) subL
theorem c_ninLS {s : Str} {l : List Str} : CmpR G C .NotIn O (dS s) (dLst G.K (l.map dS)) (!decide (s ∈ l)) := by rw [← inV_str]; exact c_weak (c_ninS rfl (flat_str l)) (fun _ _ h => h.1) subL
theorem c_inTS {s : Str} {l : List Str} : CmpR G C .In O (dS s) (dTup G.K (l.map dS)) (decide (s ∈ l)) := by rw [← inV_str]; exact c_weak (c_inT rfl (flat_str l)) (fun _ _ h => h.1) subT
theorem c_ninTS {s : Str} {l : List Str} : CmpR G C .NotIn O (dS s) (dTup G.K (l.map dS)) (!decide (s ∈ l)) := by rw [← inV_str]; exact c_weak (c_ninT rfl (flat_str l)) (fun _ _ h => h.1) subT
theorem c_inLI {s : Int} {l : List Int} : CmpR G C .In O (dI s) (dLst G.K (l.map dI)) (decide (s ∈ l)) := by rw [map_dI, ← inV_int]; exact c_inS rfl (flat_int l)
theorem c_ninLI {s : Int} {l : List Int} : CmpR G C .NotIn O (dI s) (dLst G.K (l.map dI)) (!decide (s ∈ l)) := by rw [map_dI, ← inV_int]; exact c_ninS rfl (flat_int l)
/-- one sign in a text -/
def hasSign (z s : Str) : Bool := decide (s ∈ signs z)
theorem mem_signs {z : Str} {c : Nat} : (⟨#[c]⟩ : Str) ∈ signs z ↔ c ∈ z.cps.toList := by
  unfold signs
  constructor
  · intro h
    obtain ⟨d, hd, e⟩ := List.mem_map.mp h
    have e2 : #[d] = #[c] := congrArg Str.cps e
    have e3 : d = c := by simpa using e2
    rw [← e3]; exact hd
  · intro h
    exact List.mem_map.mpr ⟨c, h, rfl⟩
theorem c_inZ {s z y : Str} (hs : s ∈ signs y) : CmpR G C .In O (dS s) (dS z) (hasSign z s) := by
  obtain ⟨c, _, rfl⟩ := List.mem_map.mp hs
  exact c_is c_inSign (dec_iff mem_signs.symm)
theorem c_ninZ {s z y : Str} (hs : s ∈ signs y) : CmpR G C .NotIn O (dS s) (dS z) (!hasSign z s) := by
  obtain ⟨c, _, rfl⟩ := List.mem_map.mp hs
  exact c_is c_ninSign (by unfold hasSign; rw [dec_iff mem_signs.symm])
theorem sizeN : (sizeLine : Nat) = 16777216 := by rw [sizeLine_eq]
/-! ### a constant tuple of the module -/
theorem e_globT {ds : List D} {a : Addr} (g : Glo C x) (hm : G.mg x = some (.ref a)) (h : ∀ F, (dTup G.K ds).ok F (.ref a)) : E G C (.Name x pos) Γ O (dTup G.K ds) := e_as (e_glob (v := .ref a) g hm rfl) fun F v hv => by
  have e : v = .ref a := hv
  rw [e]; exact h F
/-! ### unpacking; a new list handed back -/
theorem ss_unp {tg : Expr} {Γ' : Fr} {is : List Nat} (h : E G C e Γ O d) (ht : TJ G C tg d Γ Γ' is) (hss : ∀ (env : Env), swapsWithSole [tg] e pos.line env = pure false) (hw : ∀ env, swappedStores [tg] e env = pure none) (h1 : ∀ env, (assignEach [tg] env).map (·.2) = [assign tg env]) (hr : SS G C ss Γ' O k o) : SS G C (.Assign [tg] e pos :: ss) Γ O k o :=
  ss_cons (t := fun X => tAsg (WE X e) (WG X tg)) (fun X c => ps_asg pe_can pg_can (hss X.env) (hw X.env) (h1 X.env)) fun X c W tk F σ H hh D m =>
    h.run X c F σ H hh _ fun F1 H1 v e1 h1 d1 => ht.run X c F1 O σ H1 v h1 d1 _ fun σ' h2 _ => hr.run X c W tk F1 σ' H1 h2 D (meet.mono e1 m)
end
end Kn

/-! Fw8: what the printed proofs use besides. -/
namespace Kn
open PySem PySem.Spec L2
theorem bt_len : bootBuiltins "len" = some (.builtin "len") := by decide +kernel
theorem bt_min : bootBuiltins "min" = some (.builtin "min") := by decide +kernel
theorem bt_max : bootBuiltins "max" = some (.builtin "max") := by decide +kernel
theorem bt_sorted : bootBuiltins "sorted" = some (.builtin "sorted") := by decide +kernel
theorem bt_sum : bootBuiltins "sum" = some (.builtin "sum") := by decide +kernel
theorem bt_isinstance : bootBuiltins "isinstance" = some (.builtin "isinstance") := by decide +kernel
theorem bt_int : bootBuiltins "int" = some (.type "int") := by decide +kernel
theorem bt_str : bootBuiltins "str" = some (.type "str") := by decide +kernel
theorem bt_bool : bootBuiltins "bool" = some (.type "bool") := by decide +kernel
theorem bt_list : bootBuiltins "list" = some (.type "list") := by decide +kernel
theorem bt_tuple : bootBuiltins "tuple" = some (.type "tuple") := by decide +kernel
theorem bt_dict : bootBuiltins "dict" = some (.type "dict") := by decide +kernel
theorem bt_set : bootBuiltins "set" = some (.type "set") := by decide +kernel

def imin (i j : Int) : Int := if j < i then j else i
def imax (i j : Int) : Int := if j > i then j else i
def bi (k : Bool) : Int := if k then 1 else 0
/-- loops that may hand back, but raise nothing -/
inductive Ret (S R : Type) where
  | nx (s : S)
  | rt (r : R)
def Ret.out {S R : Type} : Ret S R → Out S R
  | .nx s => .nx s
  | .rt r => .rt r
def loopL {S α R : Type} (f : S → α → Ret S R) : List α → S → Ret S R
  | [], s => .nx s
  | x :: xs, s => match f s x with
    | .nx s' => loopL f xs s'
    | .rt r => .rt r
theorem loopL_out {S α R : Type} {f : S → α → Ret S R} : ∀ {xs : List α} {s : S}, forL (fun s x => (f s x).out) xs s = (loopL f xs s).out
  | [], _ => rfl
  | x :: xs, s => by
    show (match (f s x).out with
      | .nx s' => forL (fun s x => (f s x).out) xs s'
      | .rt r => .rt r
      | .ex e => .ex e) = _
    show _ = (match f s x with
      | .nx s' => loopL f xs s'
      | .rt r => .rt r : Ret S R).out
    cases f s x with
    | nx s' => exact loopL_out (xs := xs)
    | rt r => rfl
def lp {S R : Type} (o : Ret S R) (g : S → R) : R := match o with
  | .nx s => g s
  | .rt r => r
def Ret.bind {S S1 R : Type} (o : Ret S1 R) (g : S1 → Ret S R) : Ret S R := match o with
  | .nx s => g s
  | .rt r => .rt r
theorem Ret.out_nx {S R : Type} {o : Ret S R} {s : S} (h : o.out = .nx s) : o = .nx s := by
  cases o with
  | nx t => cases h; rfl
  | rt r => cases h

section
variable {G : Cfg} {C : Sc} {Γ : Fr} {O : Own} {P : Own → Prop} {S S1 R B : Type} {k : Ek S R} {o : Out S R} {e a b c it tg : Expr} {es : List Expr} {d da db : D} {ds : List D} {ss body ta tb : List Stmt} {pos p1 p2 p3 : Pos} {x : Str} {α : Type} {f : α → D} {is : List Nat}
/-- a loop that may hand back, in a def that hands back -/
theorem ss_loop {df : α → D} {xs : List α} {h : S1 → α → Ret S1 R} {s0 : S1} {g : S1 → R} (Γ1 : S1 → Fr) (Γ2 : S1 → α → Fr) (O1 : S1 → Own) (hi : EI G C tg it Γ O P (xs.map df)) (l0 : FrLe Γ (Γ1 s0)) (o0 : O = O1 s0) (hP : ∀ s, P (O1 s))
    (hg : ∀ s x, TJ G C tg (df x) (Γ1 s) (Γ2 s x) is)
    (hb : ∀ s x pre post, xs = pre ++ x :: post → loopL h pre s0 = .nx s → SS G C body (Γ2 s x) (O1 s) (k.to fun s => SD.of (Γ1 s) (O1 s)) (h s x).out)
    (hr : ∀ s, loopL h xs s0 = .nx s → SS G C ss (Γ1 s) (O1 s) k (.rt (g s))) (hs : ∀ env x, foldedSetIterable it env x = pure x) : SS G C (.For tg it body [] pos :: ss) Γ O k (.rt (lp (loopL h xs s0) g)) := by
  have q := ss_for (ss := ss) (pos := pos) (k := k) (g := fun s => .rt (g s)) (f := fun s x => (h s x).out) Γ1 Γ2 O1 hi l0 o0 hP hg (fun s x pre post e z => hb s x pre post e (Ret.out_nx (by rw [← loopL_out]; exact z))) (fun s z => hr s (Ret.out_nx (by rw [← loopL_out]; exact z))) hs
  rw [loopL_out] at q
  revert q
  cases loopL h xs s0 with
  | nx s => exact fun q => q
  | rt r => exact fun q => q
/-- .. within a loop's turn -/
theorem ss_loopM {df : α → D} {xs : List α} {h : S1 → α → Ret S1 R} {s0 : S1} {g : S1 → Ret S R} (Γ1 : S1 → Fr) (Γ2 : S1 → α → Fr) (O1 : S1 → Own) (hi : EI G C tg it Γ O P (xs.map df)) (l0 : FrLe Γ (Γ1 s0)) (o0 : O = O1 s0) (hP : ∀ s, P (O1 s))
    (hg : ∀ s x, TJ G C tg (df x) (Γ1 s) (Γ2 s x) is)
    (hb : ∀ s x pre post, xs = pre ++ x :: post → loopL h pre s0 = .nx s → SS G C body (Γ2 s x) (O1 s) (k.to fun s => SD.of (Γ1 s) (O1 s)) (h s x).out)
    (hr : ∀ s, loopL h xs s0 = .nx s → SS G C ss (Γ1 s) (O1 s) k (g s).out) (hs : ∀ env x, foldedSetIterable it env x = pure x) : SS G C (.For tg it body [] pos :: ss) Γ O k ((loopL h xs s0).bind g).out := by
  have q := ss_for (ss := ss) (pos := pos) (k := k) (g := fun s => (g s).out) (f := fun s x => (h s x).out) Γ1 Γ2 O1 hi l0 o0 hP hg (fun s x pre post e z => hb s x pre post e (Ret.out_nx (by rw [← loopL_out]; exact z))) (fun s z => hr s (Ret.out_nx (by rw [← loopL_out]; exact z))) hs
  rw [loopL_out] at q
  revert q
  cases loopL h xs s0 with
  | nx s => exact fun q => q
  | rt r => exact fun q => q
/-- an if whose ways may hand back or go on -/
theorem ss_ifM {b : Bool} {o1 o2 : Ret S1 R} {g : S1 → Ret S R} (Γ1 : S1 → Fr) (O1 : S1 → Own) (h : T G C c Γ O b) (h1 : b = true → SS G C ta Γ O (k.to fun s => SD.of (Γ1 s) (O1 s)) o1.out) (h2 : b = false → SS G C tb Γ O (k.to fun s => SD.of (Γ1 s) (O1 s)) o2.out)
    (hr : ∀ s, (if b then o1 else o2) = .nx s → SS G C ss (Γ1 s) (O1 s) k (g s).out) : SS G C (.If c ta tb pos :: ss) Γ O k ((if b then o1 else o2).bind g).out := by
  have q := ss_bindif (ss := ss) (pos := pos) (k := k) (o1 := o1.out) (o2 := o2.out) (g := fun s => (g s).out) Γ1 O1 h h1 h2 fun s z => hr s (by
    cases b with
    | true => exact Ret.out_nx z
    | false => exact Ret.out_nx z)
  revert q
  cases b with
  | true => cases o1 <;> exact fun q => q
  | false => cases o2 <;> exact fun q => q
/-- .. in a def that hands back -/
theorem ss_ifR {b : Bool} {o1 o2 : Ret S1 R} {g : S1 → R} (Γ1 : S1 → Fr) (O1 : S1 → Own) (h : T G C c Γ O b) (h1 : b = true → SS G C ta Γ O (k.to fun s => SD.of (Γ1 s) (O1 s)) o1.out) (h2 : b = false → SS G C tb Γ O (k.to fun s => SD.of (Γ1 s) (O1 s)) o2.out)
    (hr : ∀ s, (if b then o1 else o2) = .nx s → SS G C ss (Γ1 s) (O1 s) k (.rt (g s))) : SS G C (.If c ta tb pos :: ss) Γ O k (.rt (lp (if b then o1 else o2) g)) := by
  have q := ss_bindif (ss := ss) (pos := pos) (k := k) (o1 := o1.out) (o2 := o2.out) (g := fun s => .rt (g s)) Γ1 O1 h h1 h2 fun s z => hr s (by
    cases b with
    | true => exact Ret.out_nx z
    | false => exact Ret.out_nx z)
  revert q
  cases b with
  | true => cases o1 <;> exact fun q => q
  | false => cases o2 <;> exact fun q => q
/-! ### values -/
theorem e_ifv {k : Bool} {x y : α} (h : T G C c Γ O k) (h1 : k = true → E G C a Γ O (f x)) (h2 : k = false → E G C b Γ O (f y)) : E G C (.IfExp c a b pos) Γ O (f (if k then x else y)) := by
  cases k with
  | true => exact e_ifx h h1 (fun z => nomatch z)
  | false => exact e_ifx h (fun z => nomatch z) h2
theorem e_globI {i : Int} (g : Glo C x) (hm : ∃ t, G.mg x = some (.int i t)) : E G C (.Name x pos) Γ O (dI i) := by
  obtain ⟨t, hm⟩ := hm
  exact e_glob g hm ⟨t, rfl⟩
theorem e_globS {i : Str} (g : Glo C x) (hm : ∃ t, G.mg x = some (.str i t)) (ho : okSb i = true := by decide +kernel) : E G C (.Name x pos) Γ O (dS i) := by
  obtain ⟨t, hm⟩ := hm
  exact e_as (e_glob (v := .str i) g hm ⟨t, rfl⟩) fun F v hv => ⟨hv, okS_of ho⟩
theorem e_globTS {l : List Str} (g : Glo C x) (hm : ∃ p, G.mg x = some (.ref p) ∧ ∀ H, SqT G.K H p (l.map V.str)) (ho : l.all okSb = true := by decide +kernel) : E G C (.Name x pos) Γ O (dTup G.K (l.map dS)) := by
  obtain ⟨p, hm, hs⟩ := hm
  exact e_globT g hm fun F => ⟨p, _, rfl, hs F, allD_dS l fun s h => okS_of (List.all_eq_true.mp ho s h)⟩
/-! ### len and others, typed -/
theorem k_lenLo {xs : List α} : CalR G C (.builtin "len") O [dLst G.K (xs.map f)] (dI xs.length) := by
  have h := k_lenL (G := G) (C := C) (O := O) (ds := xs.map f)
  rw [List.length_map] at h
  exact h
theorem k_lenVt {xs : List α} : CalR G C (.builtin "len") O [dTup G.K (xs.map f)] (dI xs.length) := by
  have h := k_lenT (G := G) (C := C) (O := O) (ds := xs.map f)
  rw [List.length_map] at h
  exact h
theorem k_lenOo {xs : List α} {k : Nat} {p : Addr} (hk : O[k]? = some (p, oLst (xs.map f))) : CalR G C (.builtin "len") O [dP p] (dI xs.length) := by
  have h := k_lenO (G := G) (C := C) (O := O) hk
  rw [List.length_map] at h
  exact h
theorem k_min2 {i j : Int} : CalR G C (.builtin "min") O [dI i, dI j] (dI (imin i j)) := k_min
theorem k_max2 {i j : Int} : CalR G C (.builtin "max") O [dI i, dI j] (dI (imax i j)) := k_max
theorem k_intB2 {k : Bool} : CalR G C (.type "int") O [dB k] (dI (bi k)) := k_intB
theorem join_len (z : Str) : ∀ l : List Str, (Str.join z l).length ≤ (l.map (·.length)).sum + l.length * z.length
  | [] => Nat.zero_le _
  | [x] => by
    show x.length ≤ _
    simp only [List.map_cons, List.map_nil, List.sum_cons, List.sum_nil, List.length_cons, List.length_nil]
    omega
  | x :: y :: r => by
    have ih := join_len z (y :: r)
    have e : (Str.join z (x :: y :: r)).length = x.length + z.length + (Str.join z (y :: r)).length := by
      show ((x.cps ++ z.cps) ++ (Str.join z (y :: r)).cps).size = _
      rw [Array.size_append, Array.size_append]
      rfl
    rw [e]
    simp only [List.map_cons, List.sum_cons, List.length_cons, Nat.add_mul, Nat.one_mul] at ih ⊢
    omega
theorem join_ok {z : Str} (hz : okS z) : ∀ {l : List Str}, (∀ s ∈ l, okS s) → PyData.strOk (Str.join z l) = true
  | [], _ => (by decide +kernel : PyData.strOk Str.empty = true)
  | [x], h => (h x List.mem_cons_self).1
  | x :: y :: r, h => by
    have ih := join_ok hz (l := y :: r) fun s hs => h s (List.mem_cons_of_mem _ hs)
    refine strOk_iff.mpr fun c hc => ?_
    have hc2 : c ∈ ((x.cps ++ z.cps) ++ (Str.join z (y :: r)).cps).toList := hc
    rw [Array.toList_append, Array.toList_append] at hc2
    rcases List.mem_append.mp hc2 with h1 | h1
    · rcases List.mem_append.mp h1 with h2 | h2
      · exact strOk_iff.mp (h x List.mem_cons_self).1 c h2
      · exact strOk_iff.mp hz.1 c h2
    · exact strOk_iff.mp ih c h1
theorem e_join {z : Str} {l : List Str} (ha : E G C a Γ O (dS z)) (hb : E G C b Γ O (dLst G.K (l.map dS))) (hl : (l.map (·.length)).sum + l.length * z.length ≤ 16777216) (hs : ∀ env, starEach [b] env = [(false, eval b env)]) (hba : ∀ env, attributeBase a "join" env (eval a env) = eval a env) (hln : (p1.endLine == pos.line) = true) : E G C (.Call (.Attribute a "join" p1) [b] [] pos) Γ O (dS (Str.join z l)) := .mk fun X c F σ H hh Q q => by
  refine we_of (pe_join pe_can pe_can (hs X.env) (hba X.env) hln) (ha.run X c F σ H hh _ fun F1 H1 v e1 h1 d1 => ⟨⟨z, d1.1⟩, ?_⟩)
  refine hb.run X c F1 σ H1 h1 _ fun F2 H2 u e2 h2 d2 => ?_
  obtain ⟨p, vs, rfl, hs, hal⟩ := d2
  obtain ⟨ev, ho⟩ := AllD.dS hal
  subst ev
  refine ⟨z, p, l, d1.1, rfl, .inl (by rw [c.K]; exact gw_l h2.ho.ex hs.sq), hl, ?_⟩
  rw [TL.join_eq]
  exact q F2 H2 _ (e1.trans e2) h2 ⟨rfl, join_ok d1.2 ho, by rw [sizeLine_eq]; exact Nat.le_trans (join_len z l) hl⟩
/-! ### enumerate -/
def enumF {α : Type} : Nat → List α → List (Int × α)
  | _, [] => []
  | i, x :: xs => ((i : Int), x) :: enumF (i + 1) xs
def enumL {α : Type} (xs : List α) : List (Int × α) := enumF 0 xs
theorem enumF_len : ∀ {xs : List α} {i : Nat}, (enumF i xs).length = xs.length
  | [], _ => rfl
  | _ :: xs, i => by show (enumF (i + 1) xs).length + 1 = _; rw [enumF_len (xs := xs)]; rfl
theorem enumF_at : ∀ {xs : List α} {i j : Nat}, (enumF i xs)[j]? = (xs[j]?).map fun x => (((i + j : Nat) : Int), x)
  | [], _, _ => rfl
  | x :: xs, i, 0 => rfl
  | x :: xs, i, j + 1 => by
    show (enumF (i + 1) xs)[j]? = _
    rw [enumF_at (xs := xs), List.getElem?_cons_succ]
    have e : i + 1 + j = i + (j + 1) := by omega
    rw [e]
theorem mem_enum {xs : List α} {p : Int × α} (h : p ∈ enumL xs) : 0 ≤ p.1 ∧ p.1 < xs.length ∧ p.2 ∈ xs := by
  obtain ⟨j, hj, e⟩ := List.mem_iff_getElem.mp h
  have e2 : (enumL xs)[j]? = some p := by rw [List.getElem?_eq_getElem hj, e]
  unfold enumL at e2
  rw [enumF_at] at e2
  cases q : xs[j]? with
  | none => rw [q] at e2; cases e2
  | some x =>
    rw [q] at e2
    cases e2
    have hl := (List.getElem?_eq_some_iff.mp q).1
    exact ⟨by show (0 : Int) ≤ ((0 + j : Nat) : Int); omega, by show ((0 + j : Nat) : Int) < _; omega, List.mem_of_getElem? q⟩
theorem ei_enum {xs : List α} {elts : List Expr} {kk : Nat} (g : Glo C "enumerate") (hm : G.mg "enumerate" = none) (h : E G C a Γ O (dLst G.K (xs.map f))) (hs : ∀ env, starEach [a] env = [(false, eval a env)]) : EI G C (.Tuple elts kk p2) (.Call (.Name "enumerate" p1) [a] [] pos) Γ O anyO ((enumL xs).map (dT2 G.K dI f)) := .mk fun X c F σ H hh R q =>
  wi_of (pi_enum (c.gl g) (by rw [c.mg]; exact hm) (pa_cons pe_can pa_nil (by rw [hs]; rfl)) (hs X.env)) (h.run X c F σ H hh _ fun F1 H1 v e1 h1 d1 => by
    obtain ⟨p, vs, rfl, hl, hal⟩ := d1
    have hs' : ∀ {F' O' H'}, Gw F1 F' → HoldO F' O' H' → SqL X.K H' p vs := fun e h => by rw [c.K]; exact gw_l (e.trans h.ex) hl.sq
    have hlen := AllD.length hal
    rw [List.length_map] at hlen
    refine ⟨p, vs, rfl, hs' (Gw.refl _) h1.ho, q _ F1 H1 e1 h1 ⟨fun i d hd F O H _ e h => ?_, fun F O H _ e h => ?_⟩⟩
    · unfold enumL at hd
      rw [List.getElem?_map, enumF_at] at hd
      cases hx : xs[i]? with
      | none => rw [hx] at hd; cases hd
      | some w =>
        rw [hx] at hd
        cases hd
        obtain ⟨v, hv, dv⟩ := AllD.get (d := f w) hal (by rw [List.getElem?_map, hx]; rfl)
        refine ⟨⟨vs, v, hs' e h, hv⟩, fun y H' hy => ?_⟩
        obtain ⟨T, z, rfl, hT, rfl, hz⟩ := hy
        have hz' := hz vs (hs' e h)
        rw [hv] at hz'
        cases hz'
        obtain ⟨h2, e2⟩ := h.laid (o := .tup [.int (i : Nat), v]) hT
        refine ⟨_, e2, h2, T, [.int (i : Nat), v], rfl, .inl (.inl upd_same), ?_, (f w).mono (e.trans e2) dv, trivial⟩
        show V.int (i : Nat) = V.int ((0 + i : Nat) : Int)
        rw [Nat.zero_add]
    · refine ⟨vs, hs' e h, ?_⟩
      rw [List.length_map]
      unfold enumL
      rw [enumF_len, hlen]
      exact Nat.le_refl _)
end
end Kn
namespace Kn
open PySem PySem.Spec L2
theorem slen_app {a b : Str} : (a ++ b).length = a.length + b.length := by
  show (a.cps ++ b.cps).size = a.cps.size + b.cps.size
  exact Array.size_append
theorem signAt_len {z : Str} {i : Int} : (signAt z i).length = 1 := rfl
theorem signs_len {z : Str} : (signs z).length = z.length := by
  unfold signs
  rw [List.length_map, Array.length_toList]
  rfl
theorem enumL_len {α : Type} {xs : List α} : (enumL xs).length = xs.length := enumF_len
theorem cutS_len {z : Str} {i j : Option Int} : (cutS z i j).length ≤ z.length := cutS_length z i j
theorem cut_len {α : Type} {xs : List α} {i j : Option Int} : (cut xs i j).length ≤ xs.length := by
  unfold cut
  rw [List.length_take, List.length_drop]
  omega
theorem foldl_meas {S α : Type} {m : S → Nat} {c : Nat} {f : S → α → S} (h : ∀ s x, m (f s x) ≤ m s + c) : ∀ {xs : List α} {s0 : S}, m (xs.foldl f s0) ≤ m s0 + c * xs.length
  | [], s0 => by show m s0 ≤ m s0 + c * 0; omega
  | x :: xs, s0 => by
    have ih := foldl_meas h (xs := xs) (s0 := f s0 x)
    have a := h s0 x
    show m (xs.foldl f (f s0 x)) ≤ m s0 + c * (xs.length + 1)
    rw [Nat.mul_add, Nat.mul_one]
    omega
theorem loopL_meas {S α R : Type} {m : S → Nat} {c : Nat} {f : S → α → Ret S R} (h : ∀ s x s', f s x = .nx s' → m s' ≤ m s + c) : ∀ {xs : List α} {s0 s1 : S}, loopL f xs s0 = .nx s1 → m s1 ≤ m s0 + c * xs.length
  | [], s0, s1, e => by cases e; show m s0 ≤ m s0 + c * 0; omega
  | x :: xs, s0, s1, e => by
    have e1 : (match f s0 x with
      | .nx s' => loopL f xs s'
      | .rt r => .rt r : Ret S R) = .nx s1 := e
    cases q : f s0 x with
    | nx s' =>
      rw [q] at e1
      have ih := loopL_meas h e1
      have a := h s0 x s' q
      show m s1 ≤ m s0 + c * (xs.length + 1)
      rw [Nat.mul_add, Nat.mul_one]
      omega
    | rt r => rw [q] at e1; cases e1
theorem foldl_measE {S α : Type} {m : S → Nat} {c : Nat} {f : S → α → S} (h : ∀ s x, m (f s x) = m s + c) : ∀ {xs : List α} {s0 : S}, m (xs.foldl f s0) = m s0 + c * xs.length
  | [], s0 => by show m s0 = m s0 + c * 0; omega
  | x :: xs, s0 => by
    have ih := foldl_measE h (xs := xs) (s0 := f s0 x)
    have a := h s0 x
    show m (xs.foldl f (f s0 x)) = m s0 + c * (xs.length + 1)
    rw [Nat.mul_add, Nat.mul_one]
    omega
theorem inR_len {n m : Nat} {i : Int} (h : n = m) (h2 : -(m : Int) ≤ i ∧ i < m) : inR n i := by rw [h]; exact h2
theorem inR_lit {z : Str} {n : Nat} {i : Int} (h : z.length = n) (h2 : -(n : Int) ≤ i ∧ i < n) : inR z.length i := by rw [h]; exact h2
theorem szS {n : Nat} (h : n ≤ 16777216) : n ≤ sizeLine := by rw [sizeN]; exact h
end Kn

/-! Fw9: things of any kind; data that are compared. -/
namespace Kn
open PySem PySem.Spec L2

/-- a thing of any kind -/
inductive Va where
  | non
  | bl (b : Bool)
  | int (i : Int)
  | str (s : Str)
  | lst (xs : List Va)
  | tup (xs : List Va)
  | dic
instance : Inhabited Va := ⟨.non⟩
def dEmp : D := ⟨fun F v => ∃ a, v = .ref a ∧ F a = some (.dK []), fun e ⟨a, h1, h2⟩ => ⟨a, h1, e a _ h2⟩⟩
mutual
def dA (K : PySem.W.Frag) : Va → D
  | .non => dN
  | .bl b => dB b
  | .int i => dI i
  | .str s => dS s
  | .lst xs => dLst K (dAs K xs)
  | .tup xs => dTup K (dAs K xs)
  | .dic => dEmp
def dAs (K : PySem.W.Frag) : List Va → List D
  | [] => []
  | x :: xs => dA K x :: dAs K xs
end
theorem dAs_map {K : PySem.W.Frag} : ∀ xs : List Va, dAs K xs = xs.map (dA K)
  | [] => by simp only [dAs, List.map_nil]
  | x :: xs => by simp only [dAs, List.map_cons, dAs_map xs]
theorem dA_int {K : PySem.W.Frag} (i : Int) : dA K (.int i) = dI i := by simp only [dA]
theorem dA_str {K : PySem.W.Frag} (i : Str) : dA K (.str i) = dS i := by simp only [dA]
theorem dA_bl {K : PySem.W.Frag} (i : Bool) : dA K (.bl i) = dB i := by simp only [dA]
theorem dA_non {K : PySem.W.Frag} : dA K .non = dN := by simp only [dA]
theorem dA_dic {K : PySem.W.Frag} : dA K .dic = dEmp := by simp only [dA]
theorem dA_lst {K : PySem.W.Frag} (xs : List Va) : dA K (.lst xs) = dLst K (xs.map (dA K)) := by simp only [dA, dAs_map]
theorem dA_tup {K : PySem.W.Frag} (xs : List Va) : dA K (.tup xs) = dTup K (xs.map (dA K)) := by simp only [dA, dAs_map]
/-- the kind -/
def Va.kind : Va → String
  | .non => "NoneType"
  | .bl _ => "bool"
  | .int _ => "int"
  | .str _ => "str"
  | .lst _ => "list"
  | .tup _ => "tuple"
  | .dic => "dict"
def isA (n : String) (x : Va) : Bool := decide (x.kind = n) || (decide (n = "int") && decide (x.kind = "bool"))
def Va.asI : Va → Int
  | .int i => i
  | _ => 0
def Va.asS : Va → Str
  | .str i => i
  | _ => ""
def Va.asL : Va → List Va
  | .lst i => i
  | _ => []
def Va.asT : Va → List Va
  | .tup i => i
  | _ => []
theorem isy_str {K : PySem.W.Frag} {x : Va} (h : isA "str" x = true) : dA K x = dS x.asS := by
  cases x with
  | str s => exact dA_str s
  | _ => simp [isA, Va.kind] at h
theorem isy_lst {K : PySem.W.Frag} {x : Va} (h : isA "list" x = true) : dA K x = dLst K (x.asL.map (dA K)) := by
  cases x with
  | lst s => exact dA_lst s
  | _ => simp [isA, Va.kind] at h
theorem isy_tup {K : PySem.W.Frag} {x : Va} (h : isA "tuple" x = true) : dA K x = dTup K (x.asT.map (dA K)) := by
  cases x with
  | tup s => exact dA_tup s
  | _ => simp [isA, Va.kind] at h
theorem isy_int {K : PySem.W.Frag} {x : Va} (h : isA "int" x = true) (h2 : isA "bool" x = false) : dA K x = dI x.asI := by
  cases x with
  | int s => exact dA_int s
  | _ => simp [isA, Va.kind] at h h2
theorem ty_emp {K : PySem.W.Frag} : IsTy K dEmp "dict" := fun F H v ex ⟨a, h1, h2⟩ => by
  subst h1
  exact .base (.dK (ex _ _ h2))
theorem ty_any {K : PySem.W.Frag} (x : Va) : IsTy K (dA K x) x.kind := by
  cases x with
  | non => rw [dA_non]; exact ty_none
  | bl b => rw [dA_bl]; exact ty_bool
  | int b => rw [dA_int]; exact ty_int
  | str b => rw [dA_str]; exact ty_str
  | lst b => rw [dA_lst]; exact ty_lst
  | tup b => rw [dA_tup]; exact ty_tup
  | dic => rw [dA_dic]; exact ty_emp
theorem notT {b : Bool} (h : (!b) = true) : b = false := by revert h; cases b <;> simp
theorem notF {b : Bool} (h : (!b) = false) : b = true := by revert h; cases b <;> simp
theorem andL {a b : Bool} (h : (a && b) = true) : a = true := (Bool.and_eq_true_iff.mp h).1
theorem andR {a b : Bool} (h : (a && b) = true) : b = true := (Bool.and_eq_true_iff.mp h).2
theorem orL {a b : Bool} (h : (a || b) = false) : a = false := (Bool.or_eq_false_iff.mp h).1
theorem orR {a b : Bool} (h : (a || b) = false) : b = false := (Bool.or_eq_false_iff.mp h).2
def kinds : List String := ["NoneType", "bool", "int", "str", "list", "tuple", "dict"]
theorem kitB_any (x : Va) {n : String} (h : (kinds.all fun k => decide (kitB k n = some (decide (k = n) || (decide (n = "int") && decide (k = "bool"))))) = true) : kitB x.kind n = some (isA n x) := by
  rw [List.all_eq_true] at h
  have hm : x.kind ∈ kinds := by cases x <;> simp [Va.kind, kinds]
  exact of_decide_eq_true (h _ hm)

section
variable {G : Cfg} {C : Sc} {Γ : Fr} {O : Own} {e a b : Expr} {es : List Expr} {d da db : D} {ds : List D} {pos p1 p2 p3 : Pos} {x : Str} {α β γ δ : Type} {f : α → D} {g : β → D} {h : γ → D} {i : δ → D}
theorem k_isA {n : String} {x : Va} (hb : (kinds.all fun k => decide (kitB k n = some (decide (k = n) || (decide (n = "int") && decide (k = "bool"))))) = true) : CalR G C (.builtin "isinstance") O [dA G.K x, dV (.ty n)] (dB (isA n x)) := k_isi (ty_any x) (kitB_any x hb)
theorem kit_int : (kinds.all fun k => decide (kitB k "int" = some (decide (k = "int") || (decide ("int" = "int") && decide (k = "bool"))))) = true := by decide +kernel
theorem kit_str : (kinds.all fun k => decide (kitB k "str" = some (decide (k = "str") || (decide ("str" = "int") && decide (k = "bool"))))) = true := by decide +kernel
theorem kit_bool : (kinds.all fun k => decide (kitB k "bool" = some (decide (k = "bool") || (decide ("bool" = "int") && decide (k = "bool"))))) = true := by decide +kernel
theorem kit_list : (kinds.all fun k => decide (kitB k "list" = some (decide (k = "list") || (decide ("list" = "int") && decide (k = "bool"))))) = true := by decide +kernel
theorem kit_tuple : (kinds.all fun k => decide (kitB k "tuple" = some (decide (k = "tuple") || (decide ("tuple" = "int") && decide (k = "bool"))))) = true := by decide +kernel
theorem kit_dict : (kinds.all fun k => decide (kitB k "dict" = some (decide (k = "dict") || (decide ("dict" = "int") && decide (k = "bool"))))) = true := by decide +kernel
/-- {} -/
theorem e_emp : E G C (.Dict [] [] pos) Γ O dEmp := .mk fun X c F σ H hh Q q => by
  refine we_of pe_dnewK fun p hp => ?_
  obtain ⟨h2, e2⟩ := hh.ho.laid (o := .dK []) hp
  exact q _ _ _ e2 (hh.mono e2 h2) ⟨p, rfl, upd_same⟩
/-! ### from typed to any -/
theorem any_lst {p : α → Va} (hp : ∀ x, f x = dA G.K (p x)) (xs : List α) : dLst G.K (xs.map f) = dA G.K (.lst (xs.map p)) := by
  rw [dA_lst, List.map_map]
  congr 1
  exact List.map_congr_left fun x _ => hp x
theorem any_tup {p : α → Va} (hp : ∀ x, f x = dA G.K (p x)) (xs : List α) : dTup G.K (xs.map f) = dA G.K (.tup (xs.map p)) := by
  rw [dA_tup, List.map_map]
  congr 1
  exact List.map_congr_left fun x _ => hp x
theorem any_t2 {p : α → Va} {q : β → Va} (hp : ∀ x, f x = dA G.K (p x)) (hq : ∀ x, g x = dA G.K (q x)) (x : α × β) : dT2 G.K f g x = dA G.K (.tup [p x.1, q x.2]) := by
  rw [dA_tup]
  simp only [List.map_cons, List.map_nil, dT2, hp, hq]
theorem any_t3 {p : α → Va} {q : β → Va} {r : γ → Va} (hp : ∀ x, f x = dA G.K (p x)) (hq : ∀ x, g x = dA G.K (q x)) (hr : ∀ x, h x = dA G.K (r x)) (x : α × β × γ) : dT3 G.K f g h x = dA G.K (.tup [p x.1, q x.2.1, r x.2.2]) := by
  rw [dA_tup]
  simp only [List.map_cons, List.map_nil, dT3, hp, hq, hr]
theorem any_t4 {p : α → Va} {q : β → Va} {r : γ → Va} {s : δ → Va} (hp : ∀ x, f x = dA G.K (p x)) (hq : ∀ x, g x = dA G.K (q x)) (hr : ∀ x, h x = dA G.K (r x)) (hs : ∀ x, i x = dA G.K (s x)) (x : α × β × γ × δ) : dT4 G.K f g h i x = dA G.K (.tup [p x.1, q x.2.1, r x.2.2.1, s x.2.2.2]) := by
  rw [dA_tup]
  simp only [List.map_cons, List.map_nil, dT4, hp, hq, hr, hs]
end
end Kn

/-! Fw10: data that are compared as wholes. -/
namespace Kn
open PySem PySem.Spec L2

structure Dat {α : Type} [DecidableEq α] (K : PySem.W.Frag) (f : α → D) (p : α → PyData) (n : Nat) : Prop where
  ok : ∀ (a : α) (F H : Hp) (v : V), Gw F H → (f a).ok F v → Dp K H v (p a)
  lay : ∀ (a : α) (F : Hp) (v : V), (f a).ok F v → (p a).canLay0 = true
  dep : ∀ a, (p a).depth ≤ n
  eq : ∀ a b, PyData.eqv (p a) (p b) = decide (a = b)
theorem beq_dec {α : Type} [DecidableEq α] [BEq α] [LawfulBEq α] (a b : α) : (a == b) = decide (a = b) := by
  by_cases h : a = b
  · subst h; simp
  · simp [h]
theorem dat_int {K : PySem.W.Frag} : Dat K dI PyData.int 0 := ⟨fun a F H v _ h => (show v = .int a from h) ▸ .int a, fun _ _ _ _ => by simp only [PyData.canLay0], fun _ => by simp only [PyData.depth]; omega, fun a b => by simp only [PyData.eqv]; exact beq_dec a b⟩
theorem dat_str {K : PySem.W.Frag} : Dat K dS PyData.str 0 := ⟨fun a F H v _ h => h.1 ▸ .str a, fun _ _ _ h => by simp only [PyData.canLay0]; exact h.2.1, fun _ => by simp only [PyData.depth]; omega, fun a b => by simp only [PyData.eqv]; exact beq_dec a b⟩
theorem dat_bool {K : PySem.W.Frag} : Dat K dB PyData.bool 0 := ⟨fun a F H v _ h => (show v = .bl a from h) ▸ .bl a, fun _ _ _ _ => by simp only [PyData.canLay0], fun _ => by simp only [PyData.depth]; omega, fun a b => by simp only [PyData.eqv]; exact beq_dec a b⟩
theorem dat_none {K : PySem.W.Frag} : Dat K dU (fun _ => PyData.none) 0 := ⟨fun a F H v _ h => (show v = .non from h) ▸ .non, fun _ _ _ _ => by simp only [PyData.canLay0], fun _ => by simp only [PyData.depth]; omega, fun a b => by simp only [PyData.eqv]; cases a; cases b; rfl⟩
section
variable {α β γ δ : Type} [DecidableEq α] [DecidableEq β] [DecidableEq γ] [DecidableEq δ] {K : PySem.W.Frag} {f : α → D} {g : β → D} {h : γ → D} {i : δ → D} {p : α → PyData} {q : β → PyData} {r : γ → PyData} {s : δ → PyData} {n m k l : Nat}
theorem Dat.all (t : Dat K f p n) {F H : Hp} (e : Gw F H) : ∀ {xs : List α} {vs : List V}, AllD F (xs.map f) vs → DpAll K H vs (xs.map p)
  | [], [], _ => .nil
  | _ :: _, _ :: _, h => .cons (t.ok _ F H _ e h.1) (Dat.all t e h.2)
  | [], _ :: _, h => h.elim
  | _ :: _, [], h => h.elim
theorem Dat.lays (t : Dat K f p n) {F : Hp} : ∀ {xs : List α} {vs : List V}, AllD F (xs.map f) vs → PyData.canLayAll0 (xs.map p) = true
  | [], [], _ => by simp only [List.map_nil, PyData.canLayAll0]
  | x :: xs, v :: vs, h => by simp only [List.map_cons, PyData.canLayAll0, t.lay x F v h.1, Dat.lays t h.2, Bool.and_self]
  | [], _ :: _, h => h.elim
  | _ :: _, [], h => h.elim
theorem Dat.deps (t : Dat K f p n) : ∀ xs : List α, PyData.depthAll (xs.map p) ≤ n
  | [] => by simp only [List.map_nil, PyData.depthAll]; omega
  | x :: xs => by
    have h1 := t.dep x
    have h2 := Dat.deps t xs
    simp only [List.map_cons, PyData.depthAll]
    omega
theorem Dat.eqs (t : Dat K f p n) : ∀ xs ys : List α, PyData.eqvAll (xs.map p) (ys.map p) = decide (xs = ys)
  | [], [] => by simp only [List.map_nil, PyData.eqvAll, decide_true]
  | [], _ :: _ => by simp only [List.map_nil, List.map_cons, PyData.eqvAll]; rfl
  | _ :: _, [] => by simp only [List.map_nil, List.map_cons, PyData.eqvAll]; rfl
  | x :: xs, y :: ys => by
    simp only [List.map_cons, PyData.eqvAll, t.eq x y, Dat.eqs t xs ys]
    by_cases h1 : x = y
    · subst h1
      by_cases h2 : xs = ys
      · subst h2; simp
      · simp [h2]
    · simp [h1]
theorem dat_lst (t : Dat K f p n) : Dat K (dLo K f) (fun xs => PyData.list (xs.map p)) (n + 1) := by
  refine ⟨fun a F H v e h => ?_, fun a F v h => by obtain ⟨_, _, _, _, h3⟩ := h; simp only [PyData.canLay0]; exact t.lays h3, fun a => by have := t.deps a; simp only [PyData.depth]; omega, fun a b => by simp only [PyData.eqv]; exact t.eqs a b⟩
  obtain ⟨x, vs, rfl, h2, h3⟩ := h
  exact .lst (gw_l e h2.sq) (t.all e h3)
theorem dat_vtup (t : Dat K f p n) : Dat K (dVt K f) (fun xs => PyData.tuple (xs.map p)) (n + 1) := by
  refine ⟨fun a F H v e h => ?_, fun a F v h => by obtain ⟨_, _, _, _, h3⟩ := h; simp only [PyData.canLay0]; exact t.lays h3, fun a => by have := t.deps a; simp only [PyData.depth]; omega, fun a b => by simp only [PyData.eqv]; exact t.eqs a b⟩
  obtain ⟨x, vs, rfl, h2, h3⟩ := h
  exact .tup (gw_t e h2) (t.all e h3)
theorem dat_t2 (t : Dat K f p n) (u : Dat K g q n) : Dat K (dT2 K f g) (fun x => PyData.tuple [p x.1, q x.2]) (n + 1) := by
  refine ⟨fun a F H v e h => ?_, fun a F v h => ?_, fun a => by have h1 := t.dep a.1; have h2 := u.dep a.2; simp only [PyData.depth, PyData.depthAll]; omega, fun a b => ?_⟩
  · obtain ⟨x, vs, rfl, h2, h3⟩ := h
    match vs, h3 with
    | [v1, v2], h3 => exact .tup (gw_t e h2) (.cons (t.ok _ F H _ e h3.1) (.cons (u.ok _ F H _ e h3.2.1) .nil))
    | [], h3 => exact h3.elim
    | [_], h3 => exact h3.2.elim
    | _ :: _ :: _ :: _, h3 => exact h3.2.2.elim
  · obtain ⟨_, vs, _, _, h3⟩ := h
    match vs, h3 with
    | [v1, v2], h3 => simp only [PyData.canLay0, PyData.canLayAll0, t.lay _ F _ h3.1, u.lay _ F _ h3.2.1, Bool.and_self]
    | [], h3 => exact h3.elim
    | [_], h3 => exact h3.2.elim
    | _ :: _ :: _ :: _, h3 => exact h3.2.2.elim
  · simp only [PyData.eqv, PyData.eqvAll, t.eq, u.eq, Bool.and_true]
    obtain ⟨a1, a2⟩ := a
    obtain ⟨b1, b2⟩ := b
    rw [← Bool.decide_and]
    exact decide_eq_decide.mpr (by simp)
theorem dat_t3 (t : Dat K f p n) (u : Dat K g q n) (w : Dat K h r n) : Dat K (dT3 K f g h) (fun x => PyData.tuple [p x.1, q x.2.1, r x.2.2]) (n + 1) := by
  refine ⟨fun a F H v e h => ?_, fun a F v h => ?_, fun a => by have h1 := t.dep a.1; have h2 := u.dep a.2.1; have h3 := w.dep a.2.2; simp only [PyData.depth, PyData.depthAll]; omega, fun a b => ?_⟩
  · obtain ⟨x, vs, rfl, h2, h3⟩ := h
    match vs, h3 with
    | [v1, v2, v3], h3 => exact .tup (gw_t e h2) (.cons (t.ok _ F H _ e h3.1) (.cons (u.ok _ F H _ e h3.2.1) (.cons (w.ok _ F H _ e h3.2.2.1) .nil)))
    | [], h3 => exact h3.elim
    | [_], h3 => exact h3.2.elim
    | [_, _], h3 => exact h3.2.2.elim
    | _ :: _ :: _ :: _ :: _, h3 => exact h3.2.2.2.elim
  · obtain ⟨_, vs, _, _, h3⟩ := h
    match vs, h3 with
    | [v1, v2, v3], h3 => simp only [PyData.canLay0, PyData.canLayAll0, t.lay _ F _ h3.1, u.lay _ F _ h3.2.1, w.lay _ F _ h3.2.2.1, Bool.and_self]
    | [], h3 => exact h3.elim
    | [_], h3 => exact h3.2.elim
    | [_, _], h3 => exact h3.2.2.elim
    | _ :: _ :: _ :: _ :: _, h3 => exact h3.2.2.2.elim
  · simp only [PyData.eqv, PyData.eqvAll, t.eq, u.eq, w.eq, Bool.and_true]
    obtain ⟨a1, a2, a3⟩ := a
    obtain ⟨b1, b2, b3⟩ := b
    rw [← Bool.decide_and, ← Bool.decide_and]
    exact decide_eq_decide.mpr (by simp)
theorem dat_opt (t : Dat K f p n) (hn : ∀ a, PyData.eqv .none (p a) = false ∧ PyData.eqv (p a) .none = false) : Dat K (dO f) (fun x => match x with
    | none => PyData.none
    | some a => p a) n := by
  refine ⟨fun a F H v e h => ?_, fun a F v h => ?_, fun a => ?_, fun a b => ?_⟩
  · cases a with
    | none => exact (show v = .non from h) ▸ .non
    | some a => exact t.ok a F H v e h
  · cases a with
    | none => simp only [PyData.canLay0]
    | some a => exact t.lay a F v h
  · cases a with
    | none => simp only [PyData.depth]; omega
    | some a => exact t.dep a
  · cases a with
    | none =>
      cases b with
      | none => simp only [PyData.eqv]; rfl
      | some b => exact ((hn b).1).trans (by simp)
    | some a =>
      cases b with
      | none => exact ((hn a).2).trans (by simp)
      | some b => exact (t.eq a b).trans (by simp)
theorem Dat.up (t : Dat K f p n) (hm : n ≤ m) : Dat K f p m := ⟨t.ok, t.lay, fun a => Nat.le_trans (t.dep a) hm, t.eq⟩
theorem nn_int (a : Int) : PyData.eqv .none (PyData.int a) = false ∧ PyData.eqv (PyData.int a) .none = false := ⟨by simp only [PyData.eqv], by simp only [PyData.eqv]⟩
theorem nn_str (a : Str) : PyData.eqv .none (PyData.str a) = false ∧ PyData.eqv (PyData.str a) .none = false := ⟨by simp only [PyData.eqv], by simp only [PyData.eqv]⟩
theorem nn_list (a : List PyData) : PyData.eqv .none (PyData.list a) = false ∧ PyData.eqv (PyData.list a) .none = false := ⟨by simp only [PyData.eqv], by simp only [PyData.eqv]⟩
theorem nn_tup (a : List PyData) : PyData.eqv .none (PyData.tuple a) = false ∧ PyData.eqv (PyData.tuple a) .none = false := ⟨by simp only [PyData.eqv], by simp only [PyData.eqv]⟩
theorem Dat.shaped (t : Dat K f p n) (hn : n ≤ 64) (a : α) {F : Hp} {v : V} (h : (f a).ok F v) : SeqAt.shaped (p a) = true := by
  have h1 := t.lay a F v h
  have h2 := t.dep a
  show (PyData.canLay0 (p a) && decide (PyData.depth (p a) ≤ 64)) = true
  rw [h1, decide_eq_true (by omega)]
  rfl
end
section
variable {G : Cfg} {C : Sc} {Γ : Fr} {O : Own} {α : Type} [DecidableEq α] {f : α → D} {p : α → PyData} {n : Nat} {a b : α}
theorem c_eqDat (t : Dat G.K f p n) (hn : n ≤ 64) : CmpR G C .Eq O (f a) (f b) (decide (a = b)) := ⟨fun X c => ⟨_, op_eqD c.room.units, fun F H v u hh h1 h2 Q q => by
  refine ⟨p a, p b, by rw [c.K]; exact t.ok a F H v hh.ex h1, by rw [c.K]; exact t.ok b F H u hh.ex h2, t.shaped hn a h1, t.shaped hn b h2, ?_⟩
  rw [t.eq]
  exact q F H _ (Gw.refl F) hh rfl⟩⟩
theorem c_neDat (t : Dat G.K f p n) (hn : n ≤ 64) : CmpR G C .NotEq O (f a) (f b) (!decide (a = b)) := ⟨fun X c => ⟨_, op_neD c.room.units, fun F H v u hh h1 h2 Q q => by
  refine ⟨p a, p b, by rw [c.K]; exact t.ok a F H v hh.ex h1, by rw [c.K]; exact t.ok b F H u hh.ex h2, t.shaped hn a h1, t.shaped hn b h2, ?_⟩
  rw [t.eq]
  exact q F H _ (Gw.refl F) hh rfl⟩⟩
theorem Dat.any (t : Dat G.K f p n) (a : α) : ∀ xs : List α, ((xs.map p).any fun z => PyData.eqv z (p a)) = decide (a ∈ xs)
  | [] => by simp
  | y :: ys => by
    rw [List.map_cons, List.any_cons, t.eq, Dat.any t a ys, ← Bool.decide_or]
    exact decide_eq_decide.mpr ⟨fun h => List.mem_cons.mpr (h.imp Eq.symm id), fun h => (List.mem_cons.mp h).imp Eq.symm id⟩
theorem c_inDat {xs : List α} (t : Dat G.K f p n) (hn : n + 1 ≤ 64) : CmpR G C .In O (f a) (dLst G.K (xs.map f)) (decide (a ∈ xs)) := ⟨fun X c => ⟨_, op_inD (by have := c.room.un; omega), fun F H v u hh h1 h2 Q q => by
  have tl := dat_lst t
  refine ⟨p a, xs.map p, by rw [c.K]; exact t.ok a F H v hh.ex h1, by rw [c.K]; exact tl.ok xs F H u hh.ex h2, t.shaped (by omega) a h1, tl.shaped hn xs h2, ?_⟩
  rw [t.any a xs]
  exact q F H _ (Gw.refl F) hh rfl⟩⟩
theorem c_ninDat {xs : List α} (t : Dat G.K f p n) (hn : n + 1 ≤ 64) : CmpR G C .NotIn O (f a) (dLst G.K (xs.map f)) (!decide (a ∈ xs)) := ⟨fun X c => ⟨_, op_notInD (by have := c.room.un; omega), fun F H v u hh h1 h2 Q q => by
  have tl := dat_lst t
  refine ⟨p a, xs.map p, by rw [c.K]; exact t.ok a F H v hh.ex h1, by rw [c.K]; exact tl.ok xs F H u hh.ex h2, t.shaped (by omega) a h1, tl.shaped hn xs h2, ?_⟩
  rw [t.any a xs]
  exact q F H _ (Gw.refl F) hh rfl⟩⟩
end
end Kn

/-! Fw11: the end of a law's proof. -/
namespace Kn
open PySem PySem.Spec L2

/-! ### the hook: defs, facts, and one Bool more of what the module holds -/
abbrev AlM : Type := He.AlD × Bool
def obsM (n : Nat) (fa : List He.Fa) (fn : List He.DefD) (ex : PySem.W.Frag → Bool) (g : Addr → Option Obj) : AlM := lt (He.frG g (He.asD g n)) fun K => (He.obsD fa fn K, ex K)
structure SaysM (fa : List He.Fa) (fn : List He.DefD) (ex : PySem.W.Frag → Bool) (K : PySem.W.Frag) : Prop where
  d : He.SaysD fa fn K
  m : ex K = true
def hookM (n : Nat) (fa : List He.Fa) (fn : List He.DefD) (ex : PySem.W.Frag → Bool) : PySem.W.Hook where
  α := AlM
  obs := fun s => obsM n fa fn ex s.heap.get?
  val := fun _ => (He.valD fn, true)
  says := fun _ h => ∃ K : PySem.W.Frag, K.In h ∧ SaysM fa fn ex K
  of := fun _ _ e => ⟨_, He.frG_in, ⟨congrArg (fun z : AlM => z.1) e, congrArg (fun z : AlM => z.2) e⟩⟩
  keeps := fun _ _ _ ⟨K, hK, c⟩ k => ⟨K, PySem.W.Frag.In.keeps hK k, c⟩
theorem obsM_eq {n : Nat} {fa : List He.Fa} {fn : List He.DefD} {ex : PySem.W.Frag → Bool} {g : Addr → Option Obj} {s : Shared} (h : ∀ a, g a = s.heap.get? a) : obsM n fa fn ex g = (hookM n fa fn ex).obs s := by
  have e : g = s.heap.get? := funext h
  rw [e]
  rfl
/-- the law's end: the script's numbers as a list that the heap or the module holds -/
theorem walk_kn {l : PySem.W.OpenLaw} {n k : Nat} {q : Program} {loose : List Str} {XP : (Str → Option Value) → Heap → Prop} {YP : World → Heap → Prop} {d : DefRec} {x : Str}
    (hn : l.most = some n) (hn2 : n ≤ sizeLine) (hdf : d.params.defaults = []) (hr : Room k callerA)
    (F : ∀ (w : World) (mg : Str → Option Value) (fa : Addr) (h : Heap), YP w h → h.Ns mainGlobals mg → mg d.name = some (.ref fa) →
      ∃ (K : PySem.W.Frag) (fd : FuncData) (S : SpecD), K.In h ∧ (∀ (s : Shared) (u : Value), BindsTo s fd ⟨[u], []⟩ [(x, u)]) ∧
        (∀ ns : List Int, ns.length ≤ n → S [dLst K (ns.map dI)] [] (RK.val (dB true) [])) ∧
        ∀ base : Heap, K.In base → base.Ns mainGlobals mg → FnOk l.prog w K mg base CX0 k fa fd [x] (spD S)) :
    PySem.W.WalkO q loose XP YP l.row.toRowW d [] (fun f vs => PySem.call f vs) := by
  refine Att.attach_call hn hdf fun w s₀ s₁ mg mb fa o pm cd doc a vs ns G Y ho hd hcd hmg hobj hints hlen hg => ?_
  obtain ⟨K, fd, S, KX, hb, hsp, hF⟩ := F w mg fa _ Y G.T.g hmg
  refine law_call KX G.T.g G.T.b G.T.builtins G.T.nolimit hg hobj hints (Nat.le_trans hlen hn2) hr hF hb (fun H hO hS => ?_) fun H e s' z => z
  have hl : LsA K H a (ns.map V.int) := by
    rcases hS with hS | ⟨o, its, m, hk, h1, h2, h3, h4, h5⟩
    · exact .inl hS
    · have e := KX a o hk
      rw [hobj] at e
      cases e
      cases h3
      exact .inr ⟨_, _, hk, h4, h5⟩
  refine ⟨_, [], _, H, hsp ns hlen, ⟨Gw.refl H, List.nodup_nil, fun q hq => by cases hq⟩, ⟨⟨a, ns.map V.int, rfl, hl, ?_⟩, trivial⟩, fun v H' hv => ?_⟩
  · rw [map_dI]
    exact allD_dV _
  · obtain ⟨F', _, _, hv⟩ := hv
    exact hv
theorem tab_str {K : PySem.W.Frag} {x : Str} {l : List Str} (h : He.tupB K x (l.map He.Dv.str) = true) (H : Hp) : SqT K H (He.ga K x) (l.map V.str) := by
  have a := He.tupB_ok h H
  rw [List.map_map] at a
  exact a
theorem def_of {K : PySem.W.Frag} {P : Program} {w : World} {mg : Str → Option Value} {base h : Heap} {fa : List He.Fa} {fn : List He.DefD} (X : K.In h) (Gm : h.Ns mainGlobals mg) (c : He.SaysD fa fn K) {i j : Nat} {x : Str} {st : Stmt} (hd : fn[i]? = some ⟨(x, none), x, x, defArgs st, defBody st, defScope st, [], []⟩) (hf : fa[j]? = some (.glo x)) : Def ⟨P, w, K, mg, base⟩ x st := by
  obtain ⟨fd, F⟩ := c.def_ i hd
  exact ⟨He.fAd K (x, none), fd, F, He.glo_ok X Gm (c.fact j hf)⟩
end Kn


namespace Kn
open PySem PySem.Spec L2
def top (i : Nat) : Stmt := PySem.Challenge.pw_knewby_k01_hours_and_names.main.body.getD i (.Pass ⟨0, 0, 0, 0⟩)
def K_KEPT_WORDS : List Str := ["person", "talk", "saw", "knew", "heard", "told", "not", "nobody", "never", "by", "from", "to"]
def K_LETTERS : Str := "abcdefghijklmnopqrstuvwxyz"
def m_P_is_whole (a_thing : Va) : Bool :=
  ((isA "int" a_thing) && (!(isA "bool" a_thing)))

def m_P_is_hour (a_thing : Va) : Bool :=
  ((m_P_is_whole a_thing) && ((decide ((0 : Int) ≤ a_thing.asI)) && (decide (a_thing.asI ≤ (1000000000000000000 : Int)))))

def m_P_is_name (a_thing : Va) : Bool :=
  (if ((!(isA "str" a_thing)) || ((!((decide ((1 : Int) ≤ (a_thing.asS.length : Int))) && (decide ((a_thing.asS.length : Int) ≤ (12 : Int))))) || (decide (a_thing.asS ∈ K_KEPT_WORDS)))) then
    false
  else
  lp (loopL (R := Bool) (fun (s_5 : Unit) (x_6 : Str) =>
    (if (!hasSign K_LETTERS x_6) then
      (Ret.rt false)
    else
      (Ret.nx ()))) (signs a_thing.asS) ()) fun (s_5 : Unit) =>
  true)

def m_L_kept_words  : (List Str) :=
  lt ([("person" : Str), ("talk" : Str), ("saw" : Str), ("knew" : Str), ("heard" : Str), ("told" : Str), ("not" : Str), ("nobody" : Str)]) fun some_1 =>
  (some_1 ++ ([("never" : Str), ("by" : Str), ("from" : Str), ("to" : Str)]))

def m_L_letters (a_number_here : Int) (a_many : Int) : Str :=
  lt ("" : Str) fun word_1 =>
  lt ((upto a_many).foldl (fun (s_2 : Str) (x_3 : Int) =>
    lt ((((a_number_here + x_3) * (48271 : Int)) * (x_3 + (1 : Int))) % (2147483647 : Int)) fun at_11 =>
    lt (s_2 ++ (signAt ("abcdefghijklmnopqrstuvwxyz" : Str) (at_11 % (26 : Int)))) fun word_12 =>
    word_12) word_1) fun (s_2 : Str) =>
  s_2

def m_L_text (a_number_here : Int) : Str :=
  lt (a_number_here % (6 : Int)) fun kind_1 =>
  lt (a_number_here / (6 : Int)) fun more_2 =>
  (if (decide (kind_1 = (1 : Int))) then
    (m_L_letters more_2 ((13 : Int) + (more_2 % (4 : Int))))
  else
  (if (decide (kind_1 = (2 : Int))) then
    lt (m_L_letters more_2 ((1 : Int) + (more_2 % (12 : Int)))) fun word_5 =>
    lt ((more_2 / (12 : Int)) % (word_5.length : Int)) fun at_6 =>
    (((cutS word_5 none (some at_6)) ++ (signAt (("AZ09 _-:.>=(" : Str)) ((more_2 / (7 : Int)) % (12 : Int)))) ++ (cutS word_5 (some (at_6 + (1 : Int))) none))
  else
  lt (nth m_L_kept_words (more_2 % (12 : Int))) fun word_7 =>
  (if (decide (kind_1 = (3 : Int))) then
    word_7
  else
  (if (decide (kind_1 = (4 : Int))) then
    (nth ([(word_7 ++ ("s" : Str)), (("b" : Str) ++ word_7), (cutS word_7 (some (1 : Int)) none), (cutS word_7 none (some (-(1 : Int)))), ("" : Str)]) ((more_2 / (12 : Int)) % (5 : Int)))
  else
  (m_L_letters more_2 ((1 : Int) + (more_2 % (12 : Int))))))))

def m_L_is_name (a_text_here : Str) : Bool :=
  lp (loopL (R := Bool) (fun (s_1 : Unit) (x_2 : Str) =>
    (if (!hasSign ("abcdefghijklmnopqrstuvwxyz" : Str) x_2) then
      (Ret.rt false)
    else
      (Ret.nx ()))) (signs a_text_here) ()) fun (s_1 : Unit) =>
  (((decide ((1 : Int) ≤ (a_text_here.length : Int))) && (decide ((a_text_here.length : Int) ≤ (12 : Int)))) && (!decide (a_text_here ∈ m_L_kept_words)))

def m_L_number (a_cell : Int) : Int :=
  lt (a_cell % (4 : Int)) fun kind_1 =>
  lt (a_cell / (4 : Int)) fun more_2 =>
  (if (decide (kind_1 = (0 : Int))) then
    ((more_2 % (5 : Int)) - (2 : Int))
  else
  (if (decide (kind_1 = (1 : Int))) then
    (((1000000000000000000 : Int) + (more_2 % (5 : Int))) - (2 : Int))
  else
  (if (decide (kind_1 = (2 : Int))) then
    ((more_2 % (((2 : Int) * (1000000000000000000000000000000000000000000000000000000000000 : Int)) + (1 : Int))) - (1000000000000000000000000000000000000000000000000000000000000 : Int))
  else
  (more_2 % ((1000000000000000000 : Int) + (1 : Int))))))

def m_L_says (a_found : Bool) (a_due : Bool) : Bool :=
  (true && (decide (a_found = a_due)))

def m_L_none (a_thing : Va) : Bool :=
  ((m_L_says (m_P_is_name a_thing) false) && ((m_L_says (m_P_is_hour a_thing) false) && (m_L_says (m_P_is_whole a_thing) false)))

def m_L_law (a_script : (List Int)) : Bool :=
  lp (loopL (R := Bool) (fun (s_1 : Unit) (x_2 : Int) =>
    lt ((((x_2 % (1000000000000000 : Int)) + (7 : Int)) * (48271 : Int)) % (2147483647 : Int)) fun number_here_9 =>
    lt (m_L_text number_here_9) fun text_here_10 =>
    (if ((!(m_L_says (m_P_is_name (Va.str text_here_10)) (m_L_is_name text_here_10))) || (!(m_L_says (m_P_is_hour (Va.str text_here_10)) false))) then
      (Ret.rt false)
    else
    lt (m_L_number x_2) fun count_14 =>
    (if ((!(m_L_says (m_P_is_hour (Va.int count_14)) ((decide ((0 : Int) ≤ count_14)) && (decide (count_14 ≤ (1000000000000000000 : Int)))))) || (!(m_L_says (m_P_is_whole (Va.int count_14)) true))) then
      (Ret.rt false)
    else
    lt (nth ([(Va.bl true), (Va.bl false), ((fun _ => Va.non) ()), (Va.lst [(Va.str ("b" : Str))]), (Va.tup [(Va.str ("b" : Str))]), Va.dic, (Va.lst []), (Va.tup []), (Va.lst [(Va.int (1 : Int))])]) ((number_here_9 / (31 : Int)) % (9 : Int))) fun thing_18 =>
    (if ((!(m_L_says (m_P_is_name (Va.int count_14)) false)) || ((!(m_L_none thing_18)) || (!(m_L_says (m_P_is_whole (Va.str text_here_10)) false)))) then
      (Ret.rt false)
    else
      (Ret.nx ()))))) ((cut a_script none (some (60 : Int))) ++ ([(a_script.length : Int)])) ()) fun (s_1 : Unit) =>
  true

theorem letters_len (n k : Int) : (m_L_letters n k).length = k.toNat := by
  unfold m_L_letters
  simp only [lt]
  have h := foldl_measE (m := fun s : Str => s.length) (c := 1) (f := fun s_2 x_3 => s_2 ++ signAt ("abcdefghijklmnopqrstuvwxyz" : Str) ((n + x_3) * 48271 * (x_3 + 1) % 2147483647 % 26)) (fun s x => by rw [slen_app, signAt_len]) (xs := upto k) (s0 := ("" : Str))
  rw [upto_len] at h
  rw [h]
  show 0 + 1 * k.toNat = k.toNat
  omega
theorem kept_len {i : Int} (h : 0 ≤ i ∧ i < 12) : 1 ≤ (nth m_L_kept_words i).length ∧ (nth m_L_kept_words i).length ≤ 16 := by
  have hm := nth_mem (xs := m_L_kept_words) (i := i) (by show -12 ≤ i ∧ i < 12; omega)
  revert hm
  generalize nth m_L_kept_words i = w
  have ha : ∀ w ∈ m_L_kept_words, 1 ≤ w.length ∧ w.length ≤ 16 := by decide +kernel
  exact ha w
theorem kept_n : m_L_kept_words.length = 12 := by decide +kernel
theorem whole_isA {x : Va} (h : m_P_is_whole x = true) : isA "int" x = true ∧ isA "bool" x = false := ⟨andL h, notT (andR h)⟩

local macro_rules | `(tactic| trivial) => `(tactic| omega)
local macro_rules | `(tactic| trivial) => `(tactic| (unfold inR; omega))
local macro_rules | `(tactic| trivial) => `(tactic| (simp only [inR, sizeN, slen_app, signAt_len, upto_len, range2_len, enumL_len, signs_len, List.length_append, List.length_cons, List.length_nil, List.length_map] at *; omega))
local macro_rules | `(tactic| trivial) => `(tactic| exact inR_mod (by omega))
local macro_rules | `(tactic| trivial) => `(tactic| (unfold inR; rw [kept_n]; omega))
local macro_rules | `(tactic| trivial) => `(tactic| assumption)
def sp_P_is_whole (G : Cfg) : SpecD := fun ds O rk => ∃ (a_thing : Va), (True) ∧ ds = [(dA G.K) a_thing] ∧ rk = RK.val (dB (m_P_is_whole a_thing)) O

def sp_P_is_hour (G : Cfg) : SpecD := fun ds O rk => ∃ (a_thing : Va), (True) ∧ ds = [(dA G.K) a_thing] ∧ rk = RK.val (dB (m_P_is_hour a_thing)) O

def sp_P_is_name (G : Cfg) : SpecD := fun ds O rk => ∃ (a_thing : Va), (True) ∧ ds = [(dA G.K) a_thing] ∧ rk = RK.val (dB (m_P_is_name a_thing)) O

def sp_L_kept_words (G : Cfg) : SpecD := fun ds O rk => (True) ∧ ds = [] ∧ rk = RK.val ((dLo G.K dS) (m_L_kept_words )) O

def sp_L_letters (G : Cfg) : SpecD := fun ds O rk => ∃ (a_number_here : Int) (a_many : Int), (0 ≤ a_many ∧ a_many ≤ 100) ∧ ds = [dI a_number_here, dI a_many] ∧ rk = RK.val (dS (m_L_letters a_number_here a_many)) O

def sp_L_text (G : Cfg) : SpecD := fun ds O rk => ∃ (a_number_here : Int), (True) ∧ ds = [dI a_number_here] ∧ rk = RK.val (dS (m_L_text a_number_here)) O

def sp_L_is_name (G : Cfg) : SpecD := fun ds O rk => ∃ (a_text_here : Str), (True) ∧ ds = [dS a_text_here] ∧ rk = RK.val (dB (m_L_is_name a_text_here)) O

def sp_L_number (G : Cfg) : SpecD := fun ds O rk => ∃ (a_cell : Int), (True) ∧ ds = [dI a_cell] ∧ rk = RK.val (dI (m_L_number a_cell)) O

def sp_L_says (G : Cfg) : SpecD := fun ds O rk => ∃ (a_found : Bool) (a_due : Bool), (True) ∧ ds = [dB a_found, dB a_due] ∧ rk = RK.val (dB (m_L_says a_found a_due)) O

def sp_L_none (G : Cfg) : SpecD := fun ds O rk => ∃ (a_thing : Va), (True) ∧ ds = [(dA G.K) a_thing] ∧ rk = RK.val (dB (m_L_none a_thing)) O

def sp_L_law (G : Cfg) : SpecD := fun ds O rk => ∃ (a_script : (List Int)), (a_script.length ≤ 63) ∧ ds = [(dLo G.K dI) a_script] ∧ rk = RK.val (dB (m_L_law a_script)) O

structure All (G : Cfg) : Prop where
  d_P_is_whole : Def G "is_whole" (top 5)
  d_P_is_hour : Def G "is_hour" (top 6)
  d_P_is_name : Def G "is_name" (top 7)
  d_L_kept_words : Def G "_law_kept_words" (top 9)
  d_L_letters : Def G "_law_letters" (top 10)
  d_L_text : Def G "_law_text" (top 11)
  d_L_is_name : Def G "_law_is_name" (top 12)
  d_L_number : Def G "_law_number" (top 13)
  d_L_says : Def G "_law_says" (top 14)
  d_L_none : Def G "_law_none" (top 15)
  d_L_law : Def G "law" (top 16)
  b_bool : G.mg "bool" = none
  b_int : G.mg "int" = none
  b_isinstance : G.mg "isinstance" = none
  b_len : G.mg "len" = none
  b_range : G.mg "range" = none
  b_str : G.mg "str" = none
  c_KEPT_WORDS : ∃ p, G.mg "KEPT_WORDS" = some (.ref p) ∧ ∀ H, SqT G.K H p (K_KEPT_WORDS.map V.str)
  c_LAST_HOUR : ∃ t, G.mg "LAST_HOUR" = some (.int 1000000000000000000 t)
  c_LETTERS : ∃ t, G.mg "LETTERS" = some (.str K_LETTERS t)
  c_LONGEST : ∃ t, G.mg "LONGEST" = some (.int 12 t)
def N_P_is_whole : List Str := ["thing"]
def C_P_is_whole : Sc := ⟨0, N_P_is_whole, defScope (top 5), true⟩
theorem nd_P_is_whole : C_P_is_whole.N.Nodup := by decide +kernel
theorem V_P_is_whole_0 : Var C_P_is_whole 0 "thing" := var_of (by decide +kernel)
theorem G_P_is_whole_bool : Glo C_P_is_whole "bool" := glo_of (by decide +kernel)
theorem G_P_is_whole_int : Glo C_P_is_whole "int" := glo_of (by decide +kernel)
theorem G_P_is_whole_isinstance : Glo C_P_is_whole "isinstance" := glo_of (by decide +kernel)
theorem b_P_is_whole {G : Cfg} (A : All G) (O : Own) (a_thing : Va) : SS G C_P_is_whole (defBody (top 5)) (frame0 N_P_is_whole [(dA G.K) a_thing]) O (fnV dB O) (.rt (m_P_is_whole a_thing)) := by
  unfold m_P_is_whole
  exact ss_ret (e_and (e_callB (k_isA kit_int) G_P_is_whole_isinstance A.b_isinstance bt_isinstance (a_cons (e_var V_P_is_whole_0 rfl) (a_cons (e_tyname G_P_is_whole_int A.b_int bt_int) a_nil (fun _ => rfl)) (fun _ => rfl)) (fun _ => rfl)) (fun hb_1 => (e_bool1 (e_not (e_callB (k_isA kit_bool) G_P_is_whole_isinstance A.b_isinstance bt_isinstance (a_cons (e_var V_P_is_whole_0 rfl) (a_cons (e_tyname G_P_is_whole_bool A.b_bool bt_bool) a_nil (fun _ => rfl)) (fun _ => rfl)) (fun _ => rfl)))))) (fun _ _ _ h => h)
theorem k_P_is_whole {G : Cfg} (A : All G) : Callee G 1 "is_whole" (sp_P_is_whole G) := by
  refine A.d_P_is_whole.callee (N := N_P_is_whole) (ps := ["thing"]) (scope_of rfl rfl rfl (by decide +kernel)) (fun ds O rk h => ?_) (fun _ _ _ _ _ _ us hl => match us, hl with | [_], _ => rfl) (fun ds O rk h => ?_)
  · obtain ⟨a_thing, hp, rfl, rfl⟩ := h; rfl
  · obtain ⟨a_thing, hp, rfl, rfl⟩ := h; exact ⟨_, _, _, _, b_P_is_whole A O a_thing, rfl⟩
def N_P_is_hour : List Str := ["thing"]
def C_P_is_hour : Sc := ⟨1, N_P_is_hour, defScope (top 6), true⟩
theorem nd_P_is_hour : C_P_is_hour.N.Nodup := by decide +kernel
theorem V_P_is_hour_0 : Var C_P_is_hour 0 "thing" := var_of (by decide +kernel)
theorem G_P_is_hour_LAST_HOUR : Glo C_P_is_hour "LAST_HOUR" := glo_of (by decide +kernel)
theorem G_P_is_hour_is_whole : Glo C_P_is_hour "is_whole" := glo_of (by decide +kernel)
theorem b_P_is_hour {G : Cfg} (A : All G) (O : Own) (a_thing : Va) : SS G C_P_is_hour (defBody (top 6)) (frame0 N_P_is_hour [(dA G.K) a_thing]) O (fnV dB O) (.rt (m_P_is_hour a_thing)) := by
  unfold m_P_is_hour
  exact ss_ret (e_and (e_call (k_P_is_whole A) (by decide) G_P_is_hour_is_whole ⟨a_thing, True.intro, rfl, rfl⟩ (a_cons (e_var V_P_is_hour_0 rfl) a_nil (fun _ => rfl)) (fun _ => rfl)) (fun hb_1 => (e_bool1 (e_chain c_le (fun _ => c_le) e_int (e_eq (e_var V_P_is_hour_0 rfl) (isy_int (whole_isA hb_1).1 (whole_isA hb_1).2)) (fun _ => (e_globI G_P_is_hour_LAST_HOUR A.c_LAST_HOUR)) (fun X _ _ _ _ _ h1 h2 h3 h4 h5 => pe_chain h1 h2 h3 h4 h5 (by with_unfolding_all rfl)))))) (fun _ _ _ h => h)
theorem k_P_is_hour {G : Cfg} (A : All G) : Callee G 2 "is_hour" (sp_P_is_hour G) := by
  refine A.d_P_is_hour.callee (N := N_P_is_hour) (ps := ["thing"]) (scope_of rfl rfl rfl (by decide +kernel)) (fun ds O rk h => ?_) (fun _ _ _ _ _ _ us hl => match us, hl with | [_], _ => rfl) (fun ds O rk h => ?_)
  · obtain ⟨a_thing, hp, rfl, rfl⟩ := h; rfl
  · obtain ⟨a_thing, hp, rfl, rfl⟩ := h; exact ⟨_, _, _, _, b_P_is_hour A O a_thing, rfl⟩
def N_P_is_name : List Str := ["thing", "sign"]
def C_P_is_name : Sc := ⟨0, N_P_is_name, defScope (top 7), true⟩
theorem nd_P_is_name : C_P_is_name.N.Nodup := by decide +kernel
theorem V_P_is_name_0 : Var C_P_is_name 0 "thing" := var_of (by decide +kernel)
theorem V_P_is_name_1 : Var C_P_is_name 1 "sign" := var_of (by decide +kernel)
theorem S_P_is_name_1 : Loca C_P_is_name 1 "sign" := loc_of (by decide +kernel)
theorem G_P_is_name_KEPT_WORDS : Glo C_P_is_name "KEPT_WORDS" := glo_of (by decide +kernel)
theorem G_P_is_name_LETTERS : Glo C_P_is_name "LETTERS" := glo_of (by decide +kernel)
theorem G_P_is_name_LONGEST : Glo C_P_is_name "LONGEST" := glo_of (by decide +kernel)
theorem G_P_is_name_isinstance : Glo C_P_is_name "isinstance" := glo_of (by decide +kernel)
theorem G_P_is_name_len : Glo C_P_is_name "len" := glo_of (by decide +kernel)
theorem G_P_is_name_str : Glo C_P_is_name "str" := glo_of (by decide +kernel)
theorem b_P_is_name {G : Cfg} (A : All G) (O : Own) (a_thing : Va) : SS G C_P_is_name (defBody (top 7)) (frame0 N_P_is_name [(dA G.K) a_thing]) O (fnV dB O) (.rt (m_P_is_name a_thing)) := by
  unfold m_P_is_name
  refine ss_when .rt (t_w (w_or (t_not (t_val (e_callB (k_isA kit_str) G_P_is_name_isinstance A.b_isinstance bt_isinstance (a_cons (e_var V_P_is_name_0 rfl) (a_cons (e_tyname G_P_is_name_str A.b_str bt_str) a_nil (fun _ => rfl)) (fun _ => rfl)) (fun _ => rfl)) (fun _ _ => rfl))) (fun hb_1 => (w_or (t_not (t_chain c_le (fun _ => c_le) e_int (e_callB k_lenS G_P_is_name_len A.b_len bt_len (a_cons (e_eq (e_var V_P_is_name_0 rfl) (isy_str (notF hb_1))) a_nil (fun _ => rfl)) (fun _ => rfl)) (fun _ => (e_globI G_P_is_name_LONGEST A.c_LONGEST)) (fun X _ _ _ _ _ h1 h2 h3 h4 h5 => pt_chain h1 h2 h3 h4 h5 (by with_unfolding_all rfl)))) (fun hb_2 => (w_or1 (t_cmp c_inTS (e_eq (e_var V_P_is_name_0 rfl) (isy_str (notF hb_1))) (e_globTS G_P_is_name_KEPT_WORDS A.c_KEPT_WORDS) rfl))))))) (fun _ => nofun) (fun hc_4 => ?_) (fun hc_4 => ?_)
  ·
    exact ss_ret e_bool (fun _ _ _ h => h)
  refine ss_loop (df := dS) (s0 := ()) (fun s_5 : Unit => [some ((dA G.K) a_thing), none]) (fun (s_5 : Unit) (x_6 : Str) => ([some ((dA G.K) a_thing), none]).set 1 (some (dS x_6))) (fun s_5 : Unit => O) (ei_str (e_eq (e_var V_P_is_name_0 rfl) (isy_str (notF (orL hc_4))))) (by exact ⟨.inr rfl, .inl rfl, trivial⟩) rfl (fun _ => trivial) (fun s_5 x_6 => (tj_name S_P_is_name_1)) ?_ ?_ (fun _ _ => rfl)
  ·
    intro s_5 x_6 pre_7 post_8 hs_9 hf_10
    have hm_11 : x_6 ∈ (signs a_thing.asS) := by rw [hs_9]; simp
    have hpl_12 : pre_7.length < ((signs a_thing.asS)).length := by rw [hs_9, List.length_append, List.length_cons]; omega
    rw [signs_len] at hpl_12
    refine ss_if Ret.out (t_cmp (c_ninZ hm_11) (e_var V_P_is_name_1 rfl) (e_globS G_P_is_name_LETTERS A.c_LETTERS) rfl) (fun hc_13 => ?_) (fun hc_13 => ?_)
    ·
      exact ss_ret e_bool (fun _ _ _ h => h)
    ·
      exact ss_end (hold_end (by exact ⟨.inr rfl, .inl rfl, trivial⟩))
  intro s_5 he_15
  exact ss_ret e_bool (fun _ _ _ h => h)
theorem k_P_is_name {G : Cfg} (A : All G) : Callee G 1 "is_name" (sp_P_is_name G) := by
  refine A.d_P_is_name.callee (N := N_P_is_name) (ps := ["thing"]) (scope_of rfl rfl rfl (by decide +kernel)) (fun ds O rk h => ?_) (fun _ _ _ _ _ _ us hl => match us, hl with | [_], _ => rfl) (fun ds O rk h => ?_)
  · obtain ⟨a_thing, hp, rfl, rfl⟩ := h; rfl
  · obtain ⟨a_thing, hp, rfl, rfl⟩ := h; exact ⟨_, _, _, _, b_P_is_name A O a_thing, rfl⟩
def N_L_kept_words : List Str := ["_law_some"]
def C_L_kept_words : Sc := ⟨0, N_L_kept_words, defScope (top 9), true⟩
theorem nd_L_kept_words : C_L_kept_words.N.Nodup := by decide +kernel
theorem V_L_kept_words_0 : Var C_L_kept_words 0 "_law_some" := var_of (by decide +kernel)
theorem S_L_kept_words_0 : Loca C_L_kept_words 0 "_law_some" := loc_of (by decide +kernel)
theorem b_L_kept_words {G : Cfg} (A : All G) (O : Own)  : SS G C_L_kept_words (defBody (top 9)) (frame0 N_L_kept_words []) O (fnV (dLo G.K dS) O) (.rt (m_L_kept_words )) := by
  unfold m_L_kept_words
  refine ss_asg (f := (dLo G.K dS)) (a := [("person" : Str), ("talk" : Str), ("saw" : Str), ("knew" : Str), ("heard" : Str), ("told" : Str), ("not" : Str), ("nobody" : Str)]) .rt S_L_kept_words_0 (fun _ => rfl) (en_lst (en_list (ds := [dS ("person" : Str), dS ("talk" : Str), dS ("saw" : Str), dS ("knew" : Str), dS ("heard" : Str), dS ("told" : Str), dS ("not" : Str), dS ("nobody" : Str)]) (a_cons e_str (a_cons e_str (a_cons e_str (a_cons e_str (a_cons e_str (a_cons e_str (a_cons e_str (a_cons e_str a_nil (fun _ => rfl)) (fun _ => rfl)) (fun _ => rfl)) (fun _ => rfl)) (fun _ => rfl)) (fun _ => rfl)) (fun _ => rfl)) (fun _ => rfl)) (Nat.le_of_ble_eq_true rfl))) ?_
  intro some_1 hsome_1
  have hsome_1_l : some_1.length = 8 := by rw [hsome_1]; rfl
  exact ss_ret (en_lst (en_cat (f := dS) (xs := some_1) (ys := [("never" : Str), ("by" : Str), ("from" : Str), ("to" : Str)]) (e_var V_L_kept_words_0 rfl) (en_lst (en_list (ds := [dS ("never" : Str), dS ("by" : Str), dS ("from" : Str), dS ("to" : Str)]) (a_cons e_str (a_cons e_str (a_cons e_str (a_cons e_str a_nil (fun _ => rfl)) (fun _ => rfl)) (fun _ => rfl)) (fun _ => rfl)) (Nat.le_of_ble_eq_true rfl))) (by trivial))) (fun _ _ _ h => h)
theorem k_L_kept_words {G : Cfg} (A : All G) : Callee G 1 "_law_kept_words" (sp_L_kept_words G) := by
  refine A.d_L_kept_words.callee (N := N_L_kept_words) (ps := []) (scope_of rfl rfl rfl (by decide +kernel)) (fun ds O rk h => ?_) (fun _ _ _ _ _ _ us hl => match us, hl with | [], _ => rfl) (fun ds O rk h => ?_)
  · obtain ⟨hp, rfl, rfl⟩ := h; rfl
  · obtain ⟨hp, rfl, rfl⟩ := h; exact ⟨_, _, _, _, b_L_kept_words A O , rfl⟩
def N_L_letters : List Str := ["_law_number_here", "_law_many", "_law_word", "_law_k", "_law_at"]
def C_L_letters : Sc := ⟨0, N_L_letters, defScope (top 10), true⟩
theorem nd_L_letters : C_L_letters.N.Nodup := by decide +kernel
theorem V_L_letters_0 : Var C_L_letters 0 "_law_number_here" := var_of (by decide +kernel)
theorem V_L_letters_1 : Var C_L_letters 1 "_law_many" := var_of (by decide +kernel)
theorem V_L_letters_2 : Var C_L_letters 2 "_law_word" := var_of (by decide +kernel)
theorem V_L_letters_3 : Var C_L_letters 3 "_law_k" := var_of (by decide +kernel)
theorem V_L_letters_4 : Var C_L_letters 4 "_law_at" := var_of (by decide +kernel)
theorem S_L_letters_2 : Loca C_L_letters 2 "_law_word" := loc_of (by decide +kernel)
theorem S_L_letters_3 : Loca C_L_letters 3 "_law_k" := loc_of (by decide +kernel)
theorem S_L_letters_4 : Loca C_L_letters 4 "_law_at" := loc_of (by decide +kernel)
theorem G_L_letters_range : Glo C_L_letters "range" := glo_of (by decide +kernel)
theorem b_L_letters {G : Cfg} (A : All G) (O : Own) (a_number_here : Int) (a_many : Int) (hpre : 0 ≤ a_many ∧ a_many ≤ 100) : SS G C_L_letters (defBody (top 10)) (frame0 N_L_letters [dI a_number_here, dI a_many]) O (fnV dS O) (.rt (m_L_letters a_number_here a_many)) := by
  unfold m_L_letters
  refine ss_asg (f := dS) (a := ("" : Str)) .rt S_L_letters_2 (fun _ => rfl) e_str ?_
  intro word_1 hword_1
  have hword_1_l : word_1.length = 0 := by rw [hword_1]; decide +kernel
  refine ss_fold (df := dI) (s0 := word_1) .rt (fun s_2 : Str => [some (dI a_number_here), some (dI a_many), some (dS s_2), none, none]) (fun (s_2 : Str) (x_3 : Int) => ([some (dI a_number_here), some (dI a_many), some (dS s_2), none, none]).set 3 (some (dI x_3))) (fun s_2 : Str => O) (ei_range G_L_letters_range A.b_range (e_var V_L_letters_1 rfl) (by trivial) (fun _ => rfl)) (by exact ⟨.inr rfl, .inr rfl, .inr rfl, .inl rfl, .inl rfl, trivial⟩) rfl (fun _ => trivial) (fun s_2 x_3 => (tj_name S_L_letters_3)) ?_ ?_ (fun _ _ => rfl)
  ·
    intro s_2 x_3 pre_4 post_5 hs_6 hf_7
    have hm_8 : x_3 ∈ (upto a_many) := by rw [hs_6]; simp
    have := mem_upto hm_8
    have hpl_9 : pre_4.length < ((upto a_many)).length := by rw [hs_6, List.length_append, List.length_cons]; omega
    rw [upto_len] at hpl_9
    have hgrow_10 : (s_2).length ≤ (word_1).length + 1 * pre_4.length := by
      rw [hf_7]
      exact foldl_meas (m := fun s_2 : Str => (s_2).length) (fun _ _ => by first | (simp only [lt, slen_app, signAt_len, List.length_append, List.length_cons, List.length_nil]; omega) | (simp only [lt]; (repeat' split) <;> (simp only [lt, slen_app, signAt_len, List.length_append, List.length_cons, List.length_nil]; omega))) (s0 := word_1)
    refine ss_asg (f := dI) (a := ((((a_number_here + x_3) * (48271 : Int)) * (x_3 + (1 : Int))) % (2147483647 : Int))) .nx S_L_letters_4 (fun _ => rfl) (e_mod (e_mulR (e_mulR (e_add (e_var V_L_letters_0 rfl) (e_var V_L_letters_3 rfl)) e_int (by trivial)) (e_add (e_var V_L_letters_3 rfl) e_int) (by trivial)) e_int (by trivial)) ?_
    intro at_11 hat_11
    refine ss_asg (f := dS) (a := (s_2 ++ (signAt ("abcdefghijklmnopqrstuvwxyz" : Str) (at_11 % (26 : Int))))) .nx S_L_letters_2 (fun _ => rfl) (e_addS (e_var V_L_letters_2 rfl) (e_ixS e_str (e_mod (e_var V_L_letters_4 rfl) e_int (by trivial)) (inR_lit (n := 26) (by decide +kernel) (by trivial)) (fun _ _ => rfl)) (by trivial)) ?_
    intro word_12 hword_12
    exact ss_end (hold_end (by exact ⟨.inr rfl, .inr rfl, .inr rfl, .inl rfl, .inl rfl, trivial⟩))
  intro s_2 he_14
  exact ss_ret (e_var V_L_letters_2 rfl) (fun _ _ _ h => h)
theorem k_L_letters {G : Cfg} (A : All G) : Callee G 1 "_law_letters" (sp_L_letters G) := by
  refine A.d_L_letters.callee (N := N_L_letters) (ps := ["_law_number_here", "_law_many"]) (scope_of rfl rfl rfl (by decide +kernel)) (fun ds O rk h => ?_) (fun _ _ _ _ _ _ us hl => match us, hl with | [_, _], _ => rfl) (fun ds O rk h => ?_)
  · obtain ⟨a_number_here, a_many, hp, rfl, rfl⟩ := h; rfl
  · obtain ⟨a_number_here, a_many, hp, rfl, rfl⟩ := h; exact ⟨_, _, _, _, b_L_letters A O a_number_here a_many hp, rfl⟩
def N_L_text : List Str := ["_law_number_here", "_law_kind", "_law_more", "_law_word", "_law_at"]
def C_L_text : Sc := ⟨1, N_L_text, defScope (top 11), true⟩
theorem nd_L_text : C_L_text.N.Nodup := by decide +kernel
theorem V_L_text_0 : Var C_L_text 0 "_law_number_here" := var_of (by decide +kernel)
theorem V_L_text_1 : Var C_L_text 1 "_law_kind" := var_of (by decide +kernel)
theorem V_L_text_2 : Var C_L_text 2 "_law_more" := var_of (by decide +kernel)
theorem V_L_text_3 : Var C_L_text 3 "_law_word" := var_of (by decide +kernel)
theorem V_L_text_4 : Var C_L_text 4 "_law_at" := var_of (by decide +kernel)
theorem S_L_text_1 : Loca C_L_text 1 "_law_kind" := loc_of (by decide +kernel)
theorem S_L_text_2 : Loca C_L_text 2 "_law_more" := loc_of (by decide +kernel)
theorem S_L_text_3 : Loca C_L_text 3 "_law_word" := loc_of (by decide +kernel)
theorem S_L_text_4 : Loca C_L_text 4 "_law_at" := loc_of (by decide +kernel)
theorem G_L_text__law_kept_words : Glo C_L_text "_law_kept_words" := glo_of (by decide +kernel)
theorem G_L_text__law_letters : Glo C_L_text "_law_letters" := glo_of (by decide +kernel)
theorem G_L_text_len : Glo C_L_text "len" := glo_of (by decide +kernel)
theorem b_L_text {G : Cfg} (A : All G) (O : Own) (a_number_here : Int) : SS G C_L_text (defBody (top 11)) (frame0 N_L_text [dI a_number_here]) O (fnV dS O) (.rt (m_L_text a_number_here)) := by
  unfold m_L_text
  refine ss_asg (f := dI) (a := (a_number_here % (6 : Int))) .rt S_L_text_1 (fun _ => rfl) (e_mod (e_var V_L_text_0 rfl) e_int (by trivial)) ?_
  intro kind_1 hkind_1
  refine ss_asg (f := dI) (a := (a_number_here / (6 : Int))) .rt S_L_text_2 (fun _ => rfl) (e_divS (e_var V_L_text_0 rfl) e_int (by trivial)) ?_
  intro more_2 hmore_2
  refine ss_when .rt (t_cmp c_eqI (e_var V_L_text_1 rfl) e_int rfl) (fun _ => nofun) (fun hc_3 => ?_) (fun hc_3 => ?_)
  ·
    exact ss_ret (e_call (k_L_letters A) (by decide) G_L_text__law_letters ⟨more_2, ((13 : Int) + (more_2 % (4 : Int))), (by trivial), rfl, rfl⟩ (a_cons (e_var V_L_text_2 rfl) (a_cons (e_add e_int (e_mod (e_var V_L_text_2 rfl) e_int (by trivial))) a_nil (fun _ => rfl)) (fun _ => rfl)) (fun _ => rfl)) (fun _ _ _ h => h)
  refine ss_when .rt (t_cmp c_eqI (e_var V_L_text_1 rfl) e_int rfl) (fun _ => nofun) (fun hc_4 => ?_) (fun hc_4 => ?_)
  ·
    refine ss_asg (f := dS) (a := (m_L_letters more_2 ((1 : Int) + (more_2 % (12 : Int))))) .rt S_L_text_3 (fun _ => rfl) (e_call (k_L_letters A) (by decide) G_L_text__law_letters ⟨more_2, ((1 : Int) + (more_2 % (12 : Int))), (by trivial), rfl, rfl⟩ (a_cons (e_var V_L_text_2 rfl) (a_cons (e_add e_int (e_mod (e_var V_L_text_2 rfl) e_int (by trivial))) a_nil (fun _ => rfl)) (fun _ => rfl)) (fun _ => rfl)) ?_
    intro word_5 hword_5
    have hl_word_5 : 1 ≤ word_5.length ∧ word_5.length ≤ 16 := by first | (rw [hword_5, letters_len]; omega) | (rw [hword_5]; exact kept_len (by trivial))
    have hc_word_5 := @cutS_len word_5
    refine ss_asg (f := dI) (a := ((more_2 / (12 : Int)) % (word_5.length : Int))) .rt S_L_text_4 (fun _ => rfl) (e_mod (e_divS (e_var V_L_text_2 rfl) e_int (by trivial)) (e_callB k_lenS G_L_text_len A.b_len bt_len (a_cons (e_var V_L_text_3 rfl) a_nil (fun _ => rfl)) (fun _ => rfl)) (by trivial)) ?_
    intro at_6 hat_6
    have := @cutS_len word_5 none (some at_6)
    have := @cutS_len word_5 (some (at_6 + (1 : Int))) none
    exact ss_ret (e_addS (e_addS (e_slS (e_var V_L_text_3 rfl) eo_none (eo_some (e_var V_L_text_4 rfl))) (e_ixS e_str (e_mod (e_divS (e_var V_L_text_2 rfl) e_int (by trivial)) e_int (by trivial)) (inR_lit (n := 12) (by decide +kernel) (by trivial)) (fun _ _ => rfl)) (by trivial)) (e_slS (e_var V_L_text_3 rfl) (eo_some (e_add (e_var V_L_text_4 rfl) e_int)) eo_none) (by trivial)) (fun _ _ _ h => h)
  refine ss_asg (f := dS) (a := (nth m_L_kept_words (more_2 % (12 : Int)))) .rt S_L_text_3 (fun _ => rfl) (e_nthL (f := dS) (xs := m_L_kept_words) (e_call0 (k_L_kept_words A) (by decide) G_L_text__law_kept_words ⟨True.intro, rfl, rfl⟩) (e_mod (e_var V_L_text_2 rfl) e_int (by trivial)) (by trivial) (fun _ _ => rfl)) ?_
  intro word_7 hword_7
  have hl_word_7 : 1 ≤ word_7.length ∧ word_7.length ≤ 16 := by first | (rw [hword_7, letters_len]; omega) | (rw [hword_7]; exact kept_len (by trivial))
  have hc_word_7 := @cutS_len word_7
  refine ss_when .rt (t_cmp c_eqI (e_var V_L_text_1 rfl) e_int rfl) (fun _ => nofun) (fun hc_8 => ?_) (fun hc_8 => ?_)
  ·
    exact ss_ret (e_var V_L_text_3 rfl) (fun _ _ _ h => h)
  refine ss_when .rt (t_cmp c_eqI (e_var V_L_text_1 rfl) e_int rfl) (fun _ => nofun) (fun hc_9 => ?_) (fun hc_9 => ?_)
  ·
    have := (by decide +kernel : ("s" : Str).length = 1)
    have := (by decide +kernel : ("b" : Str).length = 1)
    have := @cutS_len word_7 (some (1 : Int)) none
    have := @cutS_len word_7 none (some (-(1 : Int)))
    exact ss_ret (e_nthL (f := dS) (xs := [(word_7 ++ ("s" : Str)), (("b" : Str) ++ word_7), (cutS word_7 (some (1 : Int)) none), (cutS word_7 none (some (-(1 : Int)))), ("" : Str)]) (en_lst (en_list (ds := [dS (word_7 ++ ("s" : Str)), dS (("b" : Str) ++ word_7), dS (cutS word_7 (some (1 : Int)) none), dS (cutS word_7 none (some (-(1 : Int)))), dS ("" : Str)]) (a_cons (e_addS (e_var V_L_text_3 rfl) e_str (by trivial)) (a_cons (e_addS e_str (e_var V_L_text_3 rfl) (by trivial)) (a_cons (e_slS (e_var V_L_text_3 rfl) (eo_some e_int) eo_none) (a_cons (e_slS (e_var V_L_text_3 rfl) eo_none (eo_some (e_neg e_int))) (a_cons e_str a_nil (fun _ => rfl)) (fun _ => rfl)) (fun _ => rfl)) (fun _ => rfl)) (fun _ => rfl)) (Nat.le_of_ble_eq_true rfl))) (e_mod (e_divS (e_var V_L_text_2 rfl) e_int (by trivial)) e_int (by trivial)) (inR_len (m := 5) rfl (by trivial)) (fun _ _ => rfl)) (fun _ _ _ h => h)
  exact ss_ret (e_call (k_L_letters A) (by decide) G_L_text__law_letters ⟨more_2, ((1 : Int) + (more_2 % (12 : Int))), (by trivial), rfl, rfl⟩ (a_cons (e_var V_L_text_2 rfl) (a_cons (e_add e_int (e_mod (e_var V_L_text_2 rfl) e_int (by trivial))) a_nil (fun _ => rfl)) (fun _ => rfl)) (fun _ => rfl)) (fun _ _ _ h => h)
theorem k_L_text {G : Cfg} (A : All G) : Callee G 2 "_law_text" (sp_L_text G) := by
  refine A.d_L_text.callee (N := N_L_text) (ps := ["_law_number_here"]) (scope_of rfl rfl rfl (by decide +kernel)) (fun ds O rk h => ?_) (fun _ _ _ _ _ _ us hl => match us, hl with | [_], _ => rfl) (fun ds O rk h => ?_)
  · obtain ⟨a_number_here, hp, rfl, rfl⟩ := h; rfl
  · obtain ⟨a_number_here, hp, rfl, rfl⟩ := h; exact ⟨_, _, _, _, b_L_text A O a_number_here, rfl⟩
def N_L_is_name : List Str := ["_law_text_here", "_law_sign"]
def C_L_is_name : Sc := ⟨1, N_L_is_name, defScope (top 12), true⟩
theorem nd_L_is_name : C_L_is_name.N.Nodup := by decide +kernel
theorem V_L_is_name_0 : Var C_L_is_name 0 "_law_text_here" := var_of (by decide +kernel)
theorem V_L_is_name_1 : Var C_L_is_name 1 "_law_sign" := var_of (by decide +kernel)
theorem S_L_is_name_1 : Loca C_L_is_name 1 "_law_sign" := loc_of (by decide +kernel)
theorem G_L_is_name__law_kept_words : Glo C_L_is_name "_law_kept_words" := glo_of (by decide +kernel)
theorem G_L_is_name_len : Glo C_L_is_name "len" := glo_of (by decide +kernel)
theorem b_L_is_name {G : Cfg} (A : All G) (O : Own) (a_text_here : Str) : SS G C_L_is_name (defBody (top 12)) (frame0 N_L_is_name [dS a_text_here]) O (fnV dB O) (.rt (m_L_is_name a_text_here)) := by
  unfold m_L_is_name
  refine ss_loop (df := dS) (s0 := ()) (fun s_1 : Unit => [some (dS a_text_here), none]) (fun (s_1 : Unit) (x_2 : Str) => ([some (dS a_text_here), none]).set 1 (some (dS x_2))) (fun s_1 : Unit => O) (ei_str (e_var V_L_is_name_0 rfl)) (by exact ⟨.inr rfl, .inl rfl, trivial⟩) rfl (fun _ => trivial) (fun s_1 x_2 => (tj_name S_L_is_name_1)) ?_ ?_ (fun _ _ => rfl)
  ·
    intro s_1 x_2 pre_3 post_4 hs_5 hf_6
    have hm_7 : x_2 ∈ (signs a_text_here) := by rw [hs_5]; simp
    have hpl_8 : pre_3.length < ((signs a_text_here)).length := by rw [hs_5, List.length_append, List.length_cons]; omega
    rw [signs_len] at hpl_8
    refine ss_if Ret.out (t_cmp (c_ninZ hm_7) (e_var V_L_is_name_1 rfl) e_str rfl) (fun hc_9 => ?_) (fun hc_9 => ?_)
    ·
      exact ss_ret e_bool (fun _ _ _ h => h)
    ·
      exact ss_end (hold_end (by exact ⟨.inr rfl, .inl rfl, trivial⟩))
  intro s_1 he_13
  exact ss_ret (e_and (e_chain c_le (fun _ => c_le) e_int (e_callB k_lenS G_L_is_name_len A.b_len bt_len (a_cons (e_var V_L_is_name_0 rfl) a_nil (fun _ => rfl)) (fun _ => rfl)) (fun _ => e_int) (fun X _ _ _ _ _ h1 h2 h3 h4 h5 => pe_chain h1 h2 h3 h4 h5 (by with_unfolding_all rfl))) (fun hb_10 => (e_bool1 (e_cmp c_ninLS (e_var V_L_is_name_0 rfl) (e_call0 (k_L_kept_words A) (by decide) G_L_is_name__law_kept_words ⟨True.intro, rfl, rfl⟩) rfl)))) (fun _ _ _ h => h)
theorem k_L_is_name {G : Cfg} (A : All G) : Callee G 2 "_law_is_name" (sp_L_is_name G) := by
  refine A.d_L_is_name.callee (N := N_L_is_name) (ps := ["_law_text_here"]) (scope_of rfl rfl rfl (by decide +kernel)) (fun ds O rk h => ?_) (fun _ _ _ _ _ _ us hl => match us, hl with | [_], _ => rfl) (fun ds O rk h => ?_)
  · obtain ⟨a_text_here, hp, rfl, rfl⟩ := h; rfl
  · obtain ⟨a_text_here, hp, rfl, rfl⟩ := h; exact ⟨_, _, _, _, b_L_is_name A O a_text_here, rfl⟩
def N_L_number : List Str := ["_law_cell", "_law_kind", "_law_more"]
def C_L_number : Sc := ⟨0, N_L_number, defScope (top 13), true⟩
theorem nd_L_number : C_L_number.N.Nodup := by decide +kernel
theorem V_L_number_0 : Var C_L_number 0 "_law_cell" := var_of (by decide +kernel)
theorem V_L_number_1 : Var C_L_number 1 "_law_kind" := var_of (by decide +kernel)
theorem V_L_number_2 : Var C_L_number 2 "_law_more" := var_of (by decide +kernel)
theorem S_L_number_1 : Loca C_L_number 1 "_law_kind" := loc_of (by decide +kernel)
theorem S_L_number_2 : Loca C_L_number 2 "_law_more" := loc_of (by decide +kernel)
theorem b_L_number {G : Cfg} (A : All G) (O : Own) (a_cell : Int) : SS G C_L_number (defBody (top 13)) (frame0 N_L_number [dI a_cell]) O (fnV dI O) (.rt (m_L_number a_cell)) := by
  unfold m_L_number
  refine ss_asg (f := dI) (a := (a_cell % (4 : Int))) .rt S_L_number_1 (fun _ => rfl) (e_mod (e_var V_L_number_0 rfl) e_int (by trivial)) ?_
  intro kind_1 hkind_1
  refine ss_asg (f := dI) (a := (a_cell / (4 : Int))) .rt S_L_number_2 (fun _ => rfl) (e_divS (e_var V_L_number_0 rfl) e_int (by trivial)) ?_
  intro more_2 hmore_2
  refine ss_when .rt (t_cmp c_eqI (e_var V_L_number_1 rfl) e_int rfl) (fun _ => nofun) (fun hc_3 => ?_) (fun hc_3 => ?_)
  ·
    exact ss_ret (e_sub (e_mod (e_var V_L_number_2 rfl) e_int (by trivial)) e_int) (fun _ _ _ h => h)
  refine ss_when .rt (t_cmp c_eqI (e_var V_L_number_1 rfl) e_int rfl) (fun _ => nofun) (fun hc_4 => ?_) (fun hc_4 => ?_)
  ·
    exact ss_ret (e_sub (e_add (e_powC 1000000000000000000 e_int e_int (by decide +kernel)) (e_mod (e_var V_L_number_2 rfl) e_int (by trivial))) e_int) (fun _ _ _ h => h)
  refine ss_when .rt (t_cmp c_eqI (e_var V_L_number_1 rfl) e_int rfl) (fun _ => nofun) (fun hc_5 => ?_) (fun hc_5 => ?_)
  ·
    exact ss_ret (e_sub (e_mod (e_var V_L_number_2 rfl) (e_add (e_mulL e_int (e_powC 1000000000000000000000000000000000000000000000000000000000000 e_int e_int (by decide +kernel)) (by trivial)) e_int) (by trivial)) (e_powC 1000000000000000000000000000000000000000000000000000000000000 e_int e_int (by decide +kernel))) (fun _ _ _ h => h)
  exact ss_ret (e_mod (e_var V_L_number_2 rfl) (e_add (e_powC 1000000000000000000 e_int e_int (by decide +kernel)) e_int) (by trivial)) (fun _ _ _ h => h)
theorem k_L_number {G : Cfg} (A : All G) : Callee G 1 "_law_number" (sp_L_number G) := by
  refine A.d_L_number.callee (N := N_L_number) (ps := ["_law_cell"]) (scope_of rfl rfl rfl (by decide +kernel)) (fun ds O rk h => ?_) (fun _ _ _ _ _ _ us hl => match us, hl with | [_], _ => rfl) (fun ds O rk h => ?_)
  · obtain ⟨a_cell, hp, rfl, rfl⟩ := h; rfl
  · obtain ⟨a_cell, hp, rfl, rfl⟩ := h; exact ⟨_, _, _, _, b_L_number A O a_cell, rfl⟩
def N_L_says : List Str := ["_law_found", "_law_due"]
def C_L_says : Sc := ⟨0, N_L_says, defScope (top 14), true⟩
theorem nd_L_says : C_L_says.N.Nodup := by decide +kernel
theorem V_L_says_0 : Var C_L_says 0 "_law_found" := var_of (by decide +kernel)
theorem V_L_says_1 : Var C_L_says 1 "_law_due" := var_of (by decide +kernel)
theorem G_L_says_bool : Glo C_L_says "bool" := glo_of (by decide +kernel)
theorem G_L_says_isinstance : Glo C_L_says "isinstance" := glo_of (by decide +kernel)
theorem b_L_says {G : Cfg} (A : All G) (O : Own) (a_found : Bool) (a_due : Bool) : SS G C_L_says (defBody (top 14)) (frame0 N_L_says [dB a_found, dB a_due]) O (fnV dB O) (.rt (m_L_says a_found a_due)) := by
  unfold m_L_says
  exact ss_ret (e_and (e_callB (k_isi (b := true) ty_bool (by decide +kernel)) G_L_says_isinstance A.b_isinstance bt_isinstance (a_cons (e_var V_L_says_0 rfl) (a_cons (e_tyname G_L_says_bool A.b_bool bt_bool) a_nil (fun _ => rfl)) (fun _ => rfl)) (fun _ => rfl)) (fun hb_1 => (e_bool1 (e_cmp c_eqB (e_var V_L_says_0 rfl) (e_var V_L_says_1 rfl) rfl)))) (fun _ _ _ h => h)
theorem k_L_says {G : Cfg} (A : All G) : Callee G 1 "_law_says" (sp_L_says G) := by
  refine A.d_L_says.callee (N := N_L_says) (ps := ["_law_found", "_law_due"]) (scope_of rfl rfl rfl (by decide +kernel)) (fun ds O rk h => ?_) (fun _ _ _ _ _ _ us hl => match us, hl with | [_, _], _ => rfl) (fun ds O rk h => ?_)
  · obtain ⟨a_found, a_due, hp, rfl, rfl⟩ := h; rfl
  · obtain ⟨a_found, a_due, hp, rfl, rfl⟩ := h; exact ⟨_, _, _, _, b_L_says A O a_found a_due, rfl⟩
def N_L_none : List Str := ["_law_thing"]
def C_L_none : Sc := ⟨2, N_L_none, defScope (top 15), true⟩
theorem nd_L_none : C_L_none.N.Nodup := by decide +kernel
theorem V_L_none_0 : Var C_L_none 0 "_law_thing" := var_of (by decide +kernel)
theorem G_L_none__law_says : Glo C_L_none "_law_says" := glo_of (by decide +kernel)
theorem G_L_none_is_hour : Glo C_L_none "is_hour" := glo_of (by decide +kernel)
theorem G_L_none_is_name : Glo C_L_none "is_name" := glo_of (by decide +kernel)
theorem G_L_none_is_whole : Glo C_L_none "is_whole" := glo_of (by decide +kernel)
theorem b_L_none {G : Cfg} (A : All G) (O : Own) (a_thing : Va) : SS G C_L_none (defBody (top 15)) (frame0 N_L_none [(dA G.K) a_thing]) O (fnV dB O) (.rt (m_L_none a_thing)) := by
  unfold m_L_none
  exact ss_ret (e_and (e_call (k_L_says A) (by decide) G_L_none__law_says ⟨(m_P_is_name a_thing), false, True.intro, rfl, rfl⟩ (a_cons (e_call (k_P_is_name A) (by decide) G_L_none_is_name ⟨a_thing, True.intro, rfl, rfl⟩ (a_cons (e_var V_L_none_0 rfl) a_nil (fun _ => rfl)) (fun _ => rfl)) (a_cons e_bool a_nil (fun _ => rfl)) (fun _ => rfl)) (fun _ => rfl)) (fun hb_1 => (e_and (e_call (k_L_says A) (by decide) G_L_none__law_says ⟨(m_P_is_hour a_thing), false, True.intro, rfl, rfl⟩ (a_cons (e_call (k_P_is_hour A) (by decide) G_L_none_is_hour ⟨a_thing, True.intro, rfl, rfl⟩ (a_cons (e_var V_L_none_0 rfl) a_nil (fun _ => rfl)) (fun _ => rfl)) (a_cons e_bool a_nil (fun _ => rfl)) (fun _ => rfl)) (fun _ => rfl)) (fun hb_2 => (e_bool1 (e_call (k_L_says A) (by decide) G_L_none__law_says ⟨(m_P_is_whole a_thing), false, True.intro, rfl, rfl⟩ (a_cons (e_call (k_P_is_whole A) (by decide) G_L_none_is_whole ⟨a_thing, True.intro, rfl, rfl⟩ (a_cons (e_var V_L_none_0 rfl) a_nil (fun _ => rfl)) (fun _ => rfl)) (a_cons e_bool a_nil (fun _ => rfl)) (fun _ => rfl)) (fun _ => rfl))))))) (fun _ _ _ h => h)
theorem k_L_none {G : Cfg} (A : All G) : Callee G 3 "_law_none" (sp_L_none G) := by
  refine A.d_L_none.callee (N := N_L_none) (ps := ["_law_thing"]) (scope_of rfl rfl rfl (by decide +kernel)) (fun ds O rk h => ?_) (fun _ _ _ _ _ _ us hl => match us, hl with | [_], _ => rfl) (fun ds O rk h => ?_)
  · obtain ⟨a_thing, hp, rfl, rfl⟩ := h; rfl
  · obtain ⟨a_thing, hp, rfl, rfl⟩ := h; exact ⟨_, _, _, _, b_L_none A O a_thing, rfl⟩
def N_L_law : List Str := ["_law_script", "_law_cell", "_law_number_here", "_law_text_here", "_law_count", "_law_thing"]
def C_L_law : Sc := ⟨3, N_L_law, defScope (top 16), true⟩
theorem nd_L_law : C_L_law.N.Nodup := by decide +kernel
theorem V_L_law_0 : Var C_L_law 0 "_law_script" := var_of (by decide +kernel)
theorem V_L_law_1 : Var C_L_law 1 "_law_cell" := var_of (by decide +kernel)
theorem V_L_law_2 : Var C_L_law 2 "_law_number_here" := var_of (by decide +kernel)
theorem V_L_law_3 : Var C_L_law 3 "_law_text_here" := var_of (by decide +kernel)
theorem V_L_law_4 : Var C_L_law 4 "_law_count" := var_of (by decide +kernel)
theorem V_L_law_5 : Var C_L_law 5 "_law_thing" := var_of (by decide +kernel)
theorem S_L_law_1 : Loca C_L_law 1 "_law_cell" := loc_of (by decide +kernel)
theorem S_L_law_2 : Loca C_L_law 2 "_law_number_here" := loc_of (by decide +kernel)
theorem S_L_law_3 : Loca C_L_law 3 "_law_text_here" := loc_of (by decide +kernel)
theorem S_L_law_4 : Loca C_L_law 4 "_law_count" := loc_of (by decide +kernel)
theorem S_L_law_5 : Loca C_L_law 5 "_law_thing" := loc_of (by decide +kernel)
theorem G_L_law__law_is_name : Glo C_L_law "_law_is_name" := glo_of (by decide +kernel)
theorem G_L_law__law_none : Glo C_L_law "_law_none" := glo_of (by decide +kernel)
theorem G_L_law__law_number : Glo C_L_law "_law_number" := glo_of (by decide +kernel)
theorem G_L_law__law_says : Glo C_L_law "_law_says" := glo_of (by decide +kernel)
theorem G_L_law__law_text : Glo C_L_law "_law_text" := glo_of (by decide +kernel)
theorem G_L_law_is_hour : Glo C_L_law "is_hour" := glo_of (by decide +kernel)
theorem G_L_law_is_name : Glo C_L_law "is_name" := glo_of (by decide +kernel)
theorem G_L_law_is_whole : Glo C_L_law "is_whole" := glo_of (by decide +kernel)
theorem G_L_law_len : Glo C_L_law "len" := glo_of (by decide +kernel)
theorem b_L_law {G : Cfg} (A : All G) (O : Own) (a_script : (List Int)) (hpre : a_script.length ≤ 63) : SS G C_L_law (defBody (top 16)) (frame0 N_L_law [(dLo G.K dI) a_script]) O (fnV dB O) (.rt (m_L_law a_script)) := by
  unfold m_L_law
  have := @cut_len _ a_script none (some (60 : Int))
  refine ss_loop (df := dI) (s0 := ()) (fun s_1 : Unit => [some ((dLo G.K dI) a_script), none, none, none, none, none]) (fun (s_1 : Unit) (x_2 : Int) => ([some ((dLo G.K dI) a_script), none, none, none, none, none]).set 1 (some (dI x_2))) (fun s_1 : Unit => O) (ei_list (en_lst (en_cat (f := dI) (xs := (cut a_script none (some (60 : Int)))) (ys := [(a_script.length : Int)]) (en_lst (en_cut (f := dI) (xs := a_script) (e_var V_L_law_0 rfl) eo_none (eo_some e_int))) (en_lst (en_list (ds := [dI (a_script.length : Int)]) (a_cons (e_callB (k_lenLo (xs := a_script) (f := dI)) G_L_law_len A.b_len bt_len (a_cons (e_var V_L_law_0 rfl) a_nil (fun _ => rfl)) (fun _ => rfl)) a_nil (fun _ => rfl)) (Nat.le_of_ble_eq_true rfl))) (by trivial)))) (by exact ⟨.inr rfl, .inl rfl, .inl rfl, .inl rfl, .inl rfl, .inl rfl, trivial⟩) rfl (fun _ => trivial) (fun s_1 x_2 => (tj_name S_L_law_1)) ?_ ?_ (fun _ _ => rfl)
  ·
    intro s_1 x_2 pre_3 post_4 hs_5 hf_6
    have hm_7 : x_2 ∈ ((cut a_script none (some (60 : Int))) ++ ([(a_script.length : Int)])) := by rw [hs_5]; simp
    have hpl_8 : pre_3.length < (((cut a_script none (some (60 : Int))) ++ ([(a_script.length : Int)]))).length := by rw [hs_5, List.length_append, List.length_cons]; omega
    refine ss_asg (f := dI) (a := ((((x_2 % (1000000000000000 : Int)) + (7 : Int)) * (48271 : Int)) % (2147483647 : Int))) Ret.out S_L_law_2 (fun _ => rfl) (e_mod (e_mulR (e_add (e_mod (e_var V_L_law_1 rfl) (e_powC 1000000000000000 e_int e_int (by decide +kernel)) (by trivial)) e_int) e_int (by trivial)) e_int (by trivial)) ?_
    intro number_here_9 hnumber_here_9
    refine ss_asg (f := dS) (a := (m_L_text number_here_9)) Ret.out S_L_law_3 (fun _ => rfl) (e_call (k_L_text A) (by decide) G_L_law__law_text ⟨number_here_9, True.intro, rfl, rfl⟩ (a_cons (e_var V_L_law_2 rfl) a_nil (fun _ => rfl)) (fun _ => rfl)) ?_
    intro text_here_10 htext_here_10
    refine ss_when Ret.out (t_w (w_or (t_not (t_val (e_call (k_L_says A) (by decide) G_L_law__law_says ⟨(m_P_is_name (Va.str text_here_10)), (m_L_is_name text_here_10), True.intro, rfl, rfl⟩ (a_cons (e_call (k_P_is_name A) (by decide) G_L_law_is_name ⟨(Va.str text_here_10), True.intro, rfl, rfl⟩ (a_cons (e_eq (e_var V_L_law_3 rfl) ((fun x => (dA_str x).symm) text_here_10)) a_nil (fun _ => rfl)) (fun _ => rfl)) (a_cons (e_call (k_L_is_name A) (by decide) G_L_law__law_is_name ⟨text_here_10, True.intro, rfl, rfl⟩ (a_cons (e_var V_L_law_3 rfl) a_nil (fun _ => rfl)) (fun _ => rfl)) a_nil (fun _ => rfl)) (fun _ => rfl)) (fun _ => rfl)) (fun _ _ => rfl))) (fun hb_11 => (w_or1 (t_not (t_val (e_call (k_L_says A) (by decide) G_L_law__law_says ⟨(m_P_is_hour (Va.str text_here_10)), false, True.intro, rfl, rfl⟩ (a_cons (e_call (k_P_is_hour A) (by decide) G_L_law_is_hour ⟨(Va.str text_here_10), True.intro, rfl, rfl⟩ (a_cons (e_eq (e_var V_L_law_3 rfl) ((fun x => (dA_str x).symm) text_here_10)) a_nil (fun _ => rfl)) (fun _ => rfl)) (a_cons e_bool a_nil (fun _ => rfl)) (fun _ => rfl)) (fun _ => rfl)) (fun _ _ => rfl))))))) (fun _ => nofun) (fun hc_13 => ?_) (fun hc_13 => ?_)
    ·
      exact ss_ret e_bool (fun _ _ _ h => h)
    refine ss_asg (f := dI) (a := (m_L_number x_2)) Ret.out S_L_law_4 (fun _ => rfl) (e_call (k_L_number A) (by decide) G_L_law__law_number ⟨x_2, True.intro, rfl, rfl⟩ (a_cons (e_var V_L_law_1 rfl) a_nil (fun _ => rfl)) (fun _ => rfl)) ?_
    intro count_14 hcount_14
    refine ss_when Ret.out (t_w (w_or (t_not (t_val (e_call (k_L_says A) (by decide) G_L_law__law_says ⟨(m_P_is_hour (Va.int count_14)), ((decide ((0 : Int) ≤ count_14)) && (decide (count_14 ≤ (1000000000000000000 : Int)))), True.intro, rfl, rfl⟩ (a_cons (e_call (k_P_is_hour A) (by decide) G_L_law_is_hour ⟨(Va.int count_14), True.intro, rfl, rfl⟩ (a_cons (e_eq (e_var V_L_law_4 rfl) ((fun x => (dA_int x).symm) count_14)) a_nil (fun _ => rfl)) (fun _ => rfl)) (a_cons (e_chain c_le (fun _ => c_le) e_int (e_var V_L_law_4 rfl) (fun _ => (e_powC 1000000000000000000 e_int e_int (by decide +kernel))) (fun X _ _ _ _ _ h1 h2 h3 h4 h5 => pe_chain h1 h2 h3 h4 h5 (by with_unfolding_all rfl))) a_nil (fun _ => rfl)) (fun _ => rfl)) (fun _ => rfl)) (fun _ _ => rfl))) (fun hb_15 => (w_or1 (t_not (t_val (e_call (k_L_says A) (by decide) G_L_law__law_says ⟨(m_P_is_whole (Va.int count_14)), true, True.intro, rfl, rfl⟩ (a_cons (e_call (k_P_is_whole A) (by decide) G_L_law_is_whole ⟨(Va.int count_14), True.intro, rfl, rfl⟩ (a_cons (e_eq (e_var V_L_law_4 rfl) ((fun x => (dA_int x).symm) count_14)) a_nil (fun _ => rfl)) (fun _ => rfl)) (a_cons e_bool a_nil (fun _ => rfl)) (fun _ => rfl)) (fun _ => rfl)) (fun _ _ => rfl))))))) (fun _ => nofun) (fun hc_17 => ?_) (fun hc_17 => ?_)
    ·
      exact ss_ret e_bool (fun _ _ _ h => h)
    refine ss_asg (f := (dA G.K)) (a := (nth ([(Va.bl true), (Va.bl false), ((fun _ => Va.non) ()), (Va.lst [(Va.str ("b" : Str))]), (Va.tup [(Va.str ("b" : Str))]), Va.dic, (Va.lst []), (Va.tup []), (Va.lst [(Va.int (1 : Int))])]) ((number_here_9 / (31 : Int)) % (9 : Int)))) Ret.out S_L_law_5 (fun _ => rfl) (e_nthL (f := (dA G.K)) (xs := [(Va.bl true), (Va.bl false), ((fun _ => Va.non) ()), (Va.lst [(Va.str ("b" : Str))]), (Va.tup [(Va.str ("b" : Str))]), Va.dic, (Va.lst []), (Va.tup []), (Va.lst [(Va.int (1 : Int))])]) (en_lst (en_list (ds := [(dA G.K) (Va.bl true), (dA G.K) (Va.bl false), (dA G.K) ((fun _ => Va.non) ()), (dA G.K) (Va.lst [(Va.str ("b" : Str))]), (dA G.K) (Va.tup [(Va.str ("b" : Str))]), (dA G.K) Va.dic, (dA G.K) (Va.lst []), (dA G.K) (Va.tup []), (dA G.K) (Va.lst [(Va.int (1 : Int))])]) (a_cons (e_eq e_bool ((fun x => (dA_bl x).symm) true)) (a_cons (e_eq e_bool ((fun x => (dA_bl x).symm) false)) (a_cons (e_eq e_none ((fun _ => dA_non.symm) ())) (a_cons (e_eq (en_lst (en_list (ds := List.map (dA G.K) [(Va.str ("b" : Str))]) (a_cons (e_eq e_str ((fun x => (dA_str x).symm) ("b" : Str))) a_nil (fun _ => rfl)) (Nat.le_of_ble_eq_true rfl))) (dA_lst _).symm) (a_cons (e_eq (e_tup (ds := List.map (dA G.K) [(Va.str ("b" : Str))]) (a_cons (e_eq e_str ((fun x => (dA_str x).symm) ("b" : Str))) a_nil (fun _ => rfl)) (Nat.le_of_ble_eq_true rfl)) (dA_tup _).symm) (a_cons (e_eq e_emp dA_dic.symm) (a_cons (e_eq (en_lst (en_list (ds := List.map (dA G.K) []) a_nil (Nat.le_of_ble_eq_true rfl))) (dA_lst _).symm) (a_cons (e_eq (e_tup (ds := List.map (dA G.K) []) a_nil (Nat.le_of_ble_eq_true rfl)) (dA_tup _).symm) (a_cons (e_eq (en_lst (en_list (ds := List.map (dA G.K) [(Va.int (1 : Int))]) (a_cons (e_eq e_int ((fun x => (dA_int x).symm) (1 : Int))) a_nil (fun _ => rfl)) (Nat.le_of_ble_eq_true rfl))) (dA_lst _).symm) a_nil (fun _ => rfl)) (fun _ => rfl)) (fun _ => rfl)) (fun _ => rfl)) (fun _ => rfl)) (fun _ => rfl)) (fun _ => rfl)) (fun _ => rfl)) (fun _ => rfl)) (Nat.le_of_ble_eq_true rfl))) (e_mod (e_divS (e_var V_L_law_2 rfl) e_int (by trivial)) e_int (by trivial)) (inR_len (m := 9) rfl (by trivial)) (fun _ _ => rfl)) ?_
    intro thing_18 hthing_18
    refine ss_if Ret.out (t_w (w_or (t_not (t_val (e_call (k_L_says A) (by decide) G_L_law__law_says ⟨(m_P_is_name (Va.int count_14)), false, True.intro, rfl, rfl⟩ (a_cons (e_call (k_P_is_name A) (by decide) G_L_law_is_name ⟨(Va.int count_14), True.intro, rfl, rfl⟩ (a_cons (e_eq (e_var V_L_law_4 rfl) ((fun x => (dA_int x).symm) count_14)) a_nil (fun _ => rfl)) (fun _ => rfl)) (a_cons e_bool a_nil (fun _ => rfl)) (fun _ => rfl)) (fun _ => rfl)) (fun _ _ => rfl))) (fun hb_19 => (w_or (t_not (t_val (e_call (k_L_none A) (by decide) G_L_law__law_none ⟨thing_18, True.intro, rfl, rfl⟩ (a_cons (e_var V_L_law_5 rfl) a_nil (fun _ => rfl)) (fun _ => rfl)) (fun _ _ => rfl))) (fun hb_20 => (w_or1 (t_not (t_val (e_call (k_L_says A) (by decide) G_L_law__law_says ⟨(m_P_is_whole (Va.str text_here_10)), false, True.intro, rfl, rfl⟩ (a_cons (e_call (k_P_is_whole A) (by decide) G_L_law_is_whole ⟨(Va.str text_here_10), True.intro, rfl, rfl⟩ (a_cons (e_eq (e_var V_L_law_3 rfl) ((fun x => (dA_str x).symm) text_here_10)) a_nil (fun _ => rfl)) (fun _ => rfl)) (a_cons e_bool a_nil (fun _ => rfl)) (fun _ => rfl)) (fun _ => rfl)) (fun _ _ => rfl))))))))) (fun hc_22 => ?_) (fun hc_22 => ?_)
    ·
      exact ss_ret e_bool (fun _ _ _ h => h)
    ·
      exact ss_end (hold_end (by exact ⟨.inr rfl, .inl rfl, .inl rfl, .inl rfl, .inl rfl, .inl rfl, trivial⟩))
  intro s_1 he_24
  exact ss_ret e_bool (fun _ _ _ h => h)
theorem k_L_law {G : Cfg} (A : All G) : Callee G 4 "law" (sp_L_law G) := by
  refine A.d_L_law.callee (N := N_L_law) (ps := ["_law_script"]) (scope_of rfl rfl rfl (by decide +kernel)) (fun ds O rk h => ?_) (fun _ _ _ _ _ _ us hl => match us, hl with | [_], _ => rfl) (fun ds O rk h => ?_)
  · obtain ⟨a_script, hp, rfl, rfl⟩ := h; rfl
  · obtain ⟨a_script, hp, rfl, rfl⟩ := h; exact ⟨_, _, _, _, b_L_law A O a_script hp, rfl⟩
end Kn


namespace Kn
open PySem PySem.Spec L2

/-! ### the plain law -/
theorem loop_all {α : Type} (p : α → Bool) : ∀ xs : List α, loopL (R := Bool) (fun (_ : Unit) (x : α) => if (!p x) = true then Ret.rt false else Ret.nx ()) xs () = if xs.all p = true then Ret.nx () else Ret.rt false
  | [] => by simp only [loopL, List.all_nil, if_true]
  | x :: xs => by
    have ih := loop_all p xs
    rw [List.all_cons, loopL]
    cases h : p x with
    | true =>
      simp only [Bool.not_true, Bool.true_and]
      exact ih
    | false => simp only [Bool.not_false, Bool.false_and, if_true, Bool.false_eq_true, if_false]
theorem loop_nx {α R : Type} {f : Unit → α → Ret Unit R} : ∀ {xs : List α}, (∀ x ∈ xs, f () x = .nx ()) → loopL f xs () = .nx ()
  | [], _ => by rw [loopL]
  | x :: xs, h => by
    rw [loopL, h x List.mem_cons_self]
    exact loop_nx fun y hy => h y (List.mem_cons_of_mem _ hy)
theorem says_eq (a b : Bool) : m_L_says a b = decide (a = b) := by unfold m_L_says; rw [Bool.true_and]
theorem name_eq (t : Str) : m_P_is_name (Va.str t) = m_L_is_name t := by
  have e : K_KEPT_WORDS = m_L_kept_words := by decide +kernel
  unfold m_P_is_name m_L_is_name
  rw [e]
  have e1 : isA "str" (Va.str t) = true := rfl
  rw [e1]
  dsimp only [Va.asS]
  have hL : K_LETTERS = ("abcdefghijklmnopqrstuvwxyz" : Str) := rfl
  rw [hL, loop_all (fun x => hasSign ("abcdefghijklmnopqrstuvwxyz" : Str) x)]
  generalize (signs t).all _ = o
  by_cases hB : t ∈ m_L_kept_words
  · cases o <;> simp [lp, hB]
  · by_cases h1 : (1 : Int) ≤ (t.length : Int)
    · by_cases h2 : (t.length : Int) ≤ 12
      · cases o <;> simp [lp, hB, h1, h2]
      · cases o <;> simp [lp, hB, h1, h2]
    · cases o <;> simp [lp, hB, h1]
theorem hour_str (t : Str) : m_P_is_hour (Va.str t) = false := rfl
theorem hour_int (n : Int) : m_P_is_hour (Va.int n) = (decide (0 ≤ n) && decide (n ≤ 1000000000000000000)) := rfl
theorem whole_int (n : Int) : m_P_is_whole (Va.int n) = true := rfl
theorem whole_str (n : Str) : m_P_is_whole (Va.str n) = false := rfl
theorem name_int (n : Int) : m_P_is_name (Va.int n) = false := rfl
theorem none_thing (i : Int) (h : inR 9 i) : m_L_none (nth [Va.bl true, Va.bl false, Va.non, Va.lst [Va.str ("b" : Str)], Va.tup [Va.str ("b" : Str)], Va.dic, Va.lst [], Va.tup [], Va.lst [Va.int (1 : Int)]] i) = true := by
  have hm := nth_mem (xs := [Va.bl true, Va.bl false, Va.non, Va.lst [Va.str ("b" : Str)], Va.tup [Va.str ("b" : Str)], Va.dic, Va.lst [], Va.tup [], Va.lst [Va.int (1 : Int)]]) (i := i) h
  revert hm
  generalize nth (α := Va) _ i = w
  intro hm
  simp only [List.mem_cons, List.not_mem_nil, or_false] at hm
  rcases hm with rfl | rfl | rfl | rfl | rfl | rfl | rfl | rfl | rfl <;> rfl
theorem law_true (ns : List Int) : m_L_law ns = true := by
  unfold m_L_law
  rw [loop_nx]
  · rfl
  · intro x _
    simp only [lt]
    generalize hn : (x % 1000000000000000 + 7) * 48271 % 2147483647 = n
    have h9 : inR 9 (n / 31 % 9) := by unfold inR; omega
    rw [name_eq, hour_str, hour_int, whole_int, whole_str, name_int, none_thing _ h9]
    simp only [says_eq]
    simp

end Kn
namespace Kn
open PySem PySem.Spec L2
def hdFa : List He.Fa := [.glo "is_whole", .glo "is_hour", .glo "is_name", .glo "_law_kept_words", .glo "_law_letters", .glo "_law_text", .glo "_law_is_name", .glo "_law_number", .glo "_law_says", .glo "_law_none", .glo "law", .free "bool", .free "int", .free "isinstance", .free "len", .free "range", .free "str", .glo "KEPT_WORDS", .int "LAST_HOUR" 1000000000000000000, .str "LETTERS" K_LETTERS, .int "LONGEST" 12]
def hdFn : List He.DefD := [⟨("is_whole", none), "is_whole", "is_whole", defArgs (top 5), defBody (top 5), defScope (top 5), [], []⟩, ⟨("is_hour", none), "is_hour", "is_hour", defArgs (top 6), defBody (top 6), defScope (top 6), [], []⟩, ⟨("is_name", none), "is_name", "is_name", defArgs (top 7), defBody (top 7), defScope (top 7), [], []⟩, ⟨("_law_kept_words", none), "_law_kept_words", "_law_kept_words", defArgs (top 9), defBody (top 9), defScope (top 9), [], []⟩, ⟨("_law_letters", none), "_law_letters", "_law_letters", defArgs (top 10), defBody (top 10), defScope (top 10), [], []⟩, ⟨("_law_text", none), "_law_text", "_law_text", defArgs (top 11), defBody (top 11), defScope (top 11), [], []⟩, ⟨("_law_is_name", none), "_law_is_name", "_law_is_name", defArgs (top 12), defBody (top 12), defScope (top 12), [], []⟩, ⟨("_law_number", none), "_law_number", "_law_number", defArgs (top 13), defBody (top 13), defScope (top 13), [], []⟩, ⟨("_law_says", none), "_law_says", "_law_says", defArgs (top 14), defBody (top 14), defScope (top 14), [], []⟩, ⟨("_law_none", none), "_law_none", "_law_none", defArgs (top 15), defBody (top 15), defScope (top 15), [], []⟩, ⟨("law", none), "law", "law", defArgs (top 16), defBody (top 16), defScope (top 16), [], []⟩]
def hdEx (K : PySem.W.Frag) : Bool := He.tupB K "KEPT_WORDS" (K_KEPT_WORDS.map He.Dv.str)
theorem hd_all {P : Program} {w : World} {K : PySem.W.Frag} {mg : Str → Option Value} {base h : Heap} (X : K.In h) (Gm : h.Ns mainGlobals mg) (c : SaysM hdFa hdFn hdEx K) : All ⟨P, w, K, mg, base⟩ where
  d_P_is_whole := def_of X Gm c.d (i := 0) (j := 0) rfl rfl
  d_P_is_hour := def_of X Gm c.d (i := 1) (j := 1) rfl rfl
  d_P_is_name := def_of X Gm c.d (i := 2) (j := 2) rfl rfl
  d_L_kept_words := def_of X Gm c.d (i := 3) (j := 3) rfl rfl
  d_L_letters := def_of X Gm c.d (i := 4) (j := 4) rfl rfl
  d_L_text := def_of X Gm c.d (i := 5) (j := 5) rfl rfl
  d_L_is_name := def_of X Gm c.d (i := 6) (j := 6) rfl rfl
  d_L_number := def_of X Gm c.d (i := 7) (j := 7) rfl rfl
  d_L_says := def_of X Gm c.d (i := 8) (j := 8) rfl rfl
  d_L_none := def_of X Gm c.d (i := 9) (j := 9) rfl rfl
  d_L_law := def_of X Gm c.d (i := 10) (j := 10) rfl rfl
  b_bool := He.free_ok X Gm (c.d.fact 11 (f := .free "bool") rfl)
  b_int := He.free_ok X Gm (c.d.fact 12 (f := .free "int") rfl)
  b_isinstance := He.free_ok X Gm (c.d.fact 13 (f := .free "isinstance") rfl)
  b_len := He.free_ok X Gm (c.d.fact 14 (f := .free "len") rfl)
  b_range := He.free_ok X Gm (c.d.fact 15 (f := .free "range") rfl)
  b_str := He.free_ok X Gm (c.d.fact 16 (f := .free "str") rfl)
  c_KEPT_WORDS := ⟨_, He.glo_ok X Gm (c.d.fact 17 (f := .glo "KEPT_WORDS") rfl), tab_str (l := K_KEPT_WORDS) c.m⟩
  c_LAST_HOUR := He.int_ok X Gm (c.d.fact 18 (f := .int "LAST_HOUR" 1000000000000000000) rfl)
  c_LETTERS := He.str_ok X Gm (c.d.fact 19 (f := .str "LETTERS" K_LETTERS) rfl)
  c_LONGEST := He.int_ok X Gm (c.d.fact 20 (f := .int "LONGEST" 12) rfl)
theorem hd_facts {P : Program} {w : World} {K : PySem.W.Frag} {h : Heap} {mg : Str → Option Value} {f : Addr} (X : K.In h) (Gm : h.Ns mainGlobals mg) (hfa : mg ("law" : Str) = some (.ref f)) (c : SaysM hdFa hdFn hdEx K) :
    ∃ fd : FuncData, (∀ (s : Shared) (v : Value), BindsTo s fd ⟨[v], []⟩ [("_law_script", v)]) ∧ ∀ base : Heap, K.In base → base.Ns mainGlobals mg → FnOk P w K mg base CX0 4 f fd ["_law_script"] (spD (sp_L_law ⟨P, w, K, mg, h⟩)) := by
  obtain ⟨fd, F⟩ := c.d.def_ 10 (d := ⟨("law", none), "law", "law", defArgs (top 16), defBody (top 16), defScope (top 16), [], []⟩) rfl
  have e := hfa.symm.trans (He.glo_ok X Gm (c.d.fact 10 (f := .glo "law") rfl))
  cases e
  have b := FunD.bindsA (ps := ["_law_script"]) F fun _ _ _ _ _ _ us hl => match us, hl with | [_], _ => rfl
  refine ⟨fd, fun s v => b s [v] rfl, fun base _ _ => ?_⟩
  refine fn_ok (G := ⟨P, w, K, mg, base⟩) (S := sp_L_law ⟨P, w, K, mg, h⟩) (N := N_L_law) (ps := ["_law_script"]) F (scope_of rfl rfl rfl (by decide +kernel)) (fun ds O rk q => ?_) (fun ds O rk q => ?_)
  · obtain ⟨ns, _, rfl, _⟩ := q; rfl
  · obtain ⟨ns, hp, rfl, rfl⟩ := q
    exact ⟨_, _, _, _, b_L_law (hd_all X Gm c) O ns hp, rfl⟩
abbrev HdR : PySem.W.OpenRow := PySem.W.OpenLaw.row PySem.Challenge.rw_knewby_k01_hours_and_names
abbrev hdHk : PySem.W.Hook := hookM 4 hdFa hdFn hdEx
def hdOb (s : PySem.W.SharedT) : AlM := obsM 4 hdFa hdFn hdEx (HandSHeadRun.getT s)
theorem hdOb_eq (s : PySem.W.SharedT) : hdOb s = hdHk.obs s.abs := obsM_eq (HandSHeadRun.getT_eq s)
def hdL0 : List Str := ["LETTERS", "KEPT_WORDS", "LONGEST", "LAST_HOUR", "is_whole", "is_hour", "is_name", "_law_kept_words", "_law_letters", "_law_text", "_law_is_name", "_law_number", "_law_says", "_law_none"]
def hdLoose : List Str := hdL0
theorem hd_run (w : World) : HandSHeadRun.RunEq HdR (PySem.W.view HdR.prog [16]) hdHk hdOb 3000 hdLoose w := by
  intro os
  kernel_rfl
end Kn
open PySem PySem.W PySem.Calls PyProof.Rows
theorem PySem.Challenge.cw_knewby_k01_hours_and_names_holds : PySem.Challenge.rw_knewby_k01_hours_and_names.Holds := by
  w_on; o_law
  refine HandSHeadRun.head_any (r := OpenLaw.row PySem.Challenge.rw_knewby_k01_hours_and_names) (q := view (OpenLaw.row PySem.Challenge.rw_knewby_k01_hours_and_names).prog [16]) (H := Kn.hdHk) (ob := Kn.hdOb) (M := 3000) (loose := Kn.hdLoose) (d := HandSHeadRun.topDef (OpenLaw.row PySem.Challenge.rw_knewby_k01_hours_and_names).prog 16) (kwd := []) Kn.hdOb_eq
    (by kernel_rfl) (fun s => by kernel_rfl) Kn.hd_run (by kernel_rfl) (by kernel_rfl) (by kernel_rfl) (by rfl) (by first | assumption | decide +kernel) (by decide +kernel) ⟨rfl, rfl, rfl, rfl, rfl, by decide +kernel⟩ ?hw ?hc
  case hw => w_witness2
  case hc =>
    refine Kn.walk_kn (l := PySem.Challenge.rw_knewby_k01_hours_and_names) (n := 63) (k := 4) (x := "_law_script") rfl (by decide) (by kernel_rfl) ⟨rfl, by decide, by decide⟩ ?F
    intro w mg fa h Y Gm hmg0
    obtain ⟨K, KX, c⟩ := Y
    have hmg : mg ("law" : PySem.Str) = some (.ref fa) := by
      have e : (HandSHeadRun.topDef (OpenLaw.row PySem.Challenge.rw_knewby_k01_hours_and_names).prog 16).name = ("law" : PySem.Str) := by kernel_rfl
      rw [← e]
      exact hmg0
    obtain ⟨fd, hb, hF⟩ := Kn.hd_facts (P := (PySem.Challenge.rw_knewby_k01_hours_and_names).prog) (w := w) KX Gm hmg c
    exact ⟨K, fd, _, KX, hb, fun ns hl => ⟨ns, hl, rfl, by rw [Kn.law_true ns]⟩, hF⟩

